import PyProof.Rows.All
import Wide.All
import OpenK.AllK
import Wide.FinOn
import PySem.Challenge.RW_tk0055_01
open PySem PySem.W PyProof.Rows
set_option Elab.async false
set_option maxRecDepth 100000
namespace Mine
-- Placeholders. The library lays beside each constant that h0 makes a second one (a twin) and the proof that both are equal; for long tables these
-- proofs are of quadratic size (29 of 31 MB of the head). Where a constant of the twin's name stands already none is laid, and the kernel reckons with
-- the constant itself, as fast. So these names are taken; nothing uses them.
theorem h0.tw2366935224961629442 : True := trivial
theorem h0.tw5620873273284486293 : True := trivial
theorem h0.tw11071046176416253267 : True := trivial
theorem h0.tw5457420195904271649 : True := trivial
theorem h0.tw16951732342024117105 : True := trivial
theorem h0.tw3250550215805878145 : True := trivial
theorem h0.tw5675299381543230585 : True := trivial
theorem h0.tw372804264265074891 : True := trivial
theorem h0.tw616300292221194092 : True := trivial
theorem h0.tw12559817606532261806 : True := trivial
theorem h0.tw12976892419175772481 : True := trivial
theorem h0.tw9890401828787048779 : True := trivial
theorem h0.tw3632606957844781398 : True := trivial
theorem h0.tw11041649899471874416 : True := trivial
theorem h0.tw1865295137934904099 : True := trivial
theorem h0.tw4901336675803448881 : True := trivial
theorem h0.tw4994793263345285894 : True := trivial
theorem h0.tw12603569780659806318 : True := trivial
theorem h0.tw10434871610932973227 : True := trivial
theorem h0.tw17612549788027229062 : True := trivial
theorem h0.tw6119156069459854105 : True := trivial
theorem h0.tw17983578503797544568 : True := trivial
theorem h0.tw7734630803607459070 : True := trivial
theorem h0.tw12055135632636490865 : True := trivial
theorem h0.tw309009825020243456 : True := trivial
theorem h0.tw5526453943723232899 : True := trivial
theorem h0.tw1524268239902235216 : True := trivial
theorem h0.tw11548809930054366048 : True := trivial
theorem h0.tw10415162559289145589 : True := trivial
theorem h0.tw2188996903394556439 : True := trivial
theorem h0.tw8530318749001738232 : True := trivial
theorem h0.tw14707037334133954551 : True := trivial
theorem h0.tw7480202386591885793 : True := trivial
theorem h0.tw16120852249111291926 : True := trivial
theorem h0.tw6297617762009510678 : True := trivial
theorem h0.tw3352868831914529549 : True := trivial
theorem h0.tw2381745293521861919 : True := trivial
theorem h0.tw7227032913547724285 : True := trivial
theorem h0.tw14654356202349643759 : True := trivial
theorem h0.tw17020515755695874886 : True := trivial
theorem h0.tw1188892131542852809 : True := trivial
theorem h0.tw13177096144220635079 : True := trivial
theorem h0.tw7709785844591439685 : True := trivial
theorem h0.tw9067025432760835197 : True := trivial
theorem h0.tw6453413489625269901 : True := trivial
theorem h0.tw12212024663201924829 : True := trivial
theorem h0.tw3579440117514247243 : True := trivial
theorem h0.tw4815130955182674186 : True := trivial
theorem h0.tw10844939981614286264 : True := trivial
theorem h0.tw16590870679435226228 : True := trivial
theorem h0.tw7257365452434676071 : True := trivial
theorem h0.tw11557201728913098701 : True := trivial
theorem h0.tw6723776367554735689 : True := trivial
theorem h0.tw6557711320453919821 : True := trivial
theorem h0.tw4623727097878636803 : True := trivial
theorem h0.tw14988737796021823748 : True := trivial
theorem h0.tw5516717828014391238 : True := trivial
theorem h0.tw12060618688741047819 : True := trivial
theorem h0.tw14857240474300831897 : True := trivial
theorem h0.tw18037871045212077495 : True := trivial
theorem h0.tw3487396089035477641 : True := trivial
theorem h0.tw11751182580749157501 : True := trivial
theorem h0.tw5585174963456173400 : True := trivial
theorem h0.tw18341644848587327342 : True := trivial
theorem h0.tw5598798885378788522 : True := trivial
theorem h0.tw9924778399668603250 : True := trivial
theorem h0.tw10281256548511197775 : True := trivial
theorem h0.tw1905285797561709967 : True := trivial
theorem h0.tw8528402420080813730 : True := trivial
theorem h0.tw14978068108432239910 : True := trivial
theorem h0.tw2540601054191465860 : True := trivial
theorem h0.tw1448208842261367395 : True := trivial
theorem h0.tw17080180758655679191 : True := trivial
theorem h0.tw14225048766368896325 : True := trivial
theorem h0.tw2152123244109758300 : True := trivial
theorem h0.tw6113771130717379868 : True := trivial
theorem h0.tw7732227690703949348 : True := trivial
theorem h0.tw8114333337559660526 : True := trivial
theorem h0.tw13094198153292168033 : True := trivial
theorem h0.tw3581772974796792257 : True := trivial
theorem h0.tw5571925363956168481 : True := trivial
theorem h0.tw12711198927149690553 : True := trivial
theorem h0.tw13535335637642258008 : True := trivial
theorem h0.tw15230880689659202512 : True := trivial
theorem h0.tw11123619305163199293 : True := trivial
theorem h0.tw11944189544237638714 : True := trivial
theorem h0.tw8392165027114999185 : True := trivial
theorem h0.tw1344623626192521210 : True := trivial
theorem h0.tw10890663050331558012 : True := trivial
theorem h0.tw11093744472524343213 : True := trivial
theorem h0.tw6944712029667455450 : True := trivial
theorem h0.tw17267586775167970483 : True := trivial
theorem h0.tw10534346227897633251 : True := trivial
theorem h0.tw4279968243314990804 : True := trivial
theorem h0.tw14358126514579283187 : True := trivial
theorem h0.tw7717288822092626203 : True := trivial
theorem h0.tw1447316616175980873 : True := trivial
theorem h0.tw6094247076961636732 : True := trivial
theorem h0.tw2927242035248121231 : True := trivial
theorem h0.tw12375237897028079591 : True := trivial
theorem h0.tw9544153919160730355 : True := trivial
theorem h0.tw8179261026223156886 : True := trivial
theorem h0.tw8452621382147104840 : True := trivial
theorem h0.tw10119472602172212655 : True := trivial
theorem h0.tw8872347212122222687 : True := trivial
theorem h0.tw4599759783317492591 : True := trivial
theorem h0.tw15586721077045167844 : True := trivial
theorem h0.tw12512260832148694339 : True := trivial
theorem h0.tw6535458104355512843 : True := trivial
theorem h0.tw6961226954016877254 : True := trivial
theorem h0.tw2620008734136862272 : True := trivial
theorem h0.tw11190401749334714206 : True := trivial
theorem h0.tw14988566313389725209 : True := trivial
theorem h0.tw1208095855235968688 : True := trivial
theorem h0.tw8850369151664550709 : True := trivial
theorem h0.tw567177025200476436 : True := trivial
theorem h0.tw3976775774053727736 : True := trivial
theorem h0.tw10128879752551204940 : True := trivial
theorem h0.tw9579212137174275591 : True := trivial
theorem h0.tw14542117356804866864 : True := trivial
theorem h0.tw5823638213467505069 : True := trivial
theorem h0.tw9508247017310603890 : True := trivial
theorem h0.tw16195161284700469532 : True := trivial
theorem h0.tw7436934397927724294 : True := trivial
theorem h0.tw13541886664651099080 : True := trivial
theorem h0.tw12157072517896203713 : True := trivial
theorem h0.tw15501184942930984010 : True := trivial
-- A row of my own: law(None) ends with a TypeError. Its proof lays the written heap (heap_1_1), the view (view_1_2) and the run of the top, which
-- the contracts and the law below use.
def rowN : OpenRow where
  prog := PySem.Challenge.pw_tk0055_01
  name := PySem.Str.ofString "law"
  records := []
  args := [.none]
  returns := .any
  pre := .lit (.bool true)
  post := .lit (.bool true)
  raises := [(.builtin "TypeError", .lit (.bool true))]
  mutates := []
  within := []
  unshared := true
  same := none
  under := ⟨true, true, true⟩
  after := ⟨true, true, true⟩
  apart := false
  loose := []
  makers := []
  pinned := true
  writes := false
theorem none_look : typeLookup (.type "NoneType") "__getitem__" = pure none := by kernel_rfl
theorem none_type : isType Value.none = pure false := by rfl
theorem none_name : PySem.typeNameOf Value.none = pure "NoneType" := by kernel_rfl
theorem none_sub {prog : Program} {w : World} {A : Around} {E : Value → Shared → Prop} {s : Shared} {n : Addr} {Q : Value → Shared → Prop} (hA : A.handled = none)
    (hE : ∀ h' tk e, Heap.NewExc s.heap h' e "TypeError" → E (.ref e) { s with heap := h', toks := tk }) : wpAny (model prog w) A (getItem .none (.ref n)) Q E s := by
  unfold getItem
  try with_reducible refine wpAny_holding ?_
  first | refine wpAny_bind (wpAny_pure ?_) | skip
  refine wpAny_bind (wpAny_callSpecial?_none (name := Str.ofString "__getitem__") (typeIs_none s) none_look ?_)
  dsimp only
  rw [none_type]
  refine wpAny_bind (wpAny_pure ?_)
  rw [if_neg Bool.false_ne_true, none_name]
  refine wpAny_bind (wpAny_pure ?_)
  exact raiseError_exc excClass_TypeError hA hE (by decide +kernel)
theorem none_item {prog : Program} {w : World} {A : Around} {E : Value → Shared → Prop} {s : Shared} {value : PySem.Expr} {slice : PySem.Expr} {n : Addr} {Q : Value → Shared → Prop} (hA : A.handled = none)
    (hE : ∀ h' tk e, Heap.NewExc s.heap h' e "TypeError" → E (.ref e) { s with heap := h', toks := tk })
    (hs : subscripted slice false .none (.ref n) = operate [.ref n, .none] (getItem .none (.ref n))) :
    wpAny (model prog w) A (subscriptTail value slice .none (.ref n)) Q E s := by
  unfold subscriptTail
  refine wpAny_bind ?_
  rw [getitemInPython_of_ne (typeIs_none s).not_modules]
  refine wpAny_bind (wpAny_specialOf (typeIs_none s) none_look ?_)
  dsimp only
  refine wpAny_pure (wpAny_bind ?_)
  rw [hs]
  exact wpAny_operating (none_sub hA hE)
theorem newExc_pushed {h h' : Heap} {o : Obj} {e : Addr} {X : String} (x : Heap.NewExc (h.push o) h' e X) : Heap.NewExc h h' e X := by
  obtain ⟨x1, x2, x3⟩ := x
  refine ⟨fun b p q => x1 b p (Heap.get?_push_of_some o q), ?_, x3⟩
  cases q : h.get? e with
  | none => rfl
  | some p => rw [Heap.get?_push_of_some o q] at x2; cases x2
set_option Elab.async true
set_option maxHeartbeats 8000000 in
theorem h0 : Mine.rowN.Holds := by
  w_on; o_law; k_head; (case hw => w_witness2)
  k_go0
  all_goals try k_fold
  k_steps
  refine none_item rfl ?_ (by rfl)
  intro h9 tk9 e9 x9
  try dsimp only at x9 ⊢
  have y9 := newExc_pushed x9
  clear x9
  exact leave_newW rfl (by assumption) y9 (by assumption) rfl rfl
set_option Elab.async false
theorem h0_there : Mine.h0.heap_1_1 = Mine.h0.heap_1_1 ∧ Mine.h0.view_1_2 = Mine.h0.view_1_2 := ⟨rfl, rfl⟩
noncomputable abbrev hook : Hook := kHook Mine.h0.heap_1_1
  [2, 3, 15, 22, 24, 25, 27, 28, 29, 30, 31, 32, 35, 37, 38, 40, 41, 42, 44, 45, 47, 48, 49, 51, 52, 54, 55, 56, 58, 59, 61, 62, 63, 65, 66, 68, 69, 70, 72, 73, 75, 76, 77, 79, 80, 82, 83, 84, 86, 87, 89, 90, 91, 93, 94, 96, 97, 105, 106, 108, 109, 111, 112, 113, 115, 116, 118, 119, 120, 122, 123, 125, 126, 127, 129, 130, 132, 133, 134, 136, 137, 139, 140, 141, 143, 144, 146, 147, 148, 150, 151, 153, 154, 155, 157, 158, 160, 161, 162, 164, 165, 167, 168, 169, 171, 172, 174, 175, 176, 178, 179, 181, 182, 183, 185, 186, 188, 189, 190, 192, 193, 195, 196, 197, 199, 200, 202, 203, 204, 206, 207, 209, 210, 211, 213, 214, 216, 217, 218, 220, 221, 223, 224, 225, 227, 228, 230, 231, 232, 234, 235, 237, 238, 239, 242, 243, 244, 246, 247, 249, 250, 251, 252, 253, 254, 255, 258, 260, 261, 263, 264, 265, 267, 268, 270, 271, 272, 275, 276, 277, 279, 280, 282, 283, 284, 286, 287, 289, 290, 291, 293, 294, 296, 297, 298, 301, 302, 303, 305, 306, 308, 309] (fun _ => by kernel_rfl)
set_option maxHeartbeats 8000000 in
theorem left0 : LeftO PySem.Challenge.pw_tk0055_01 Mine.h0.view_1_2 [] (fun s => xlAt Mine.h0.view_1_2 [] s && recOk [] s) (Hook.obs hook) (Hook.val hook) 3810 :=
  LeftO.of_pieces (boot_open Mine.h0._proof_1_6 (by decide) Mine.h0._proof_1_7) Mine.h0._proof_1_420 Mine.h0._proof_1_418 (by decide) (fun w => funext fun os => Mine.h0._proof_1_451 w os)

abbrev PR : Program := PySem.Challenge.rw_tk0055_01.row.prog

def Spec (w : World) (p : Program) (loose : List Str) (mean : ExcName → Option Value) (mg mb : Str → Option Value) (f : Addr) (vs : List Value) (news : List (Addr × Obj)) (d u : Nat) (P : List (Addr × Obj) → Value → Prop) : Prop :=
  ∀ (dp un : Nat) (gd : Option (List Code)) (cn : Str) (cs : Scope) (a : Addr) (ccd : Value) (cl : List (Str × Addr)) (outer : List Env) (A₀ : Around) (base h₀ : Heap) (L : Addr) (m : Str → Option Value) (s : Shared) (Q E : Value → Shared → Prop),
    Below A₀ base outer h₀ → Fr h₀ L s.heap m → (Mine.h0.heap_1_1 w.params).In h₀ → News h₀ L s.heap news → Top p loose mean mg mb h₀ → cs.kind = .function → dp + d < recursionLimit → un + u < cLine →
    (∀ r news' h' tk', Fr h₀ L h' m → News h₀ L h' news' → P news' r → Q r { s with heap := h', toks := tk' }) →
    wpAny (model PR w) (ktrTop dp un gd cn cs L a ccd cl outer) (call (.ref f) vs) Q E s

theorem spec_use {w : World} {p : Program} {loose : List Str} {mean : ExcName → Option Value} {mg mb : Str → Option Value} {f : Addr} {vs : List Value} {news : List (Addr × Obj)} {d u : Nat} {P : List (Addr × Obj) → Value → Prop}
    {dp un : Nat} {gd : Option (List Code)} {cn : Str} {cs : Scope} {a : Addr} {ccd : Value} {cl : List (Str × Addr)} {outer : List Env} {A₀ : Around} {base h₀ : Heap} {L : Addr} {m : Str → Option Value} {s : Shared} {Q E : Value → Shared → Prop}
    (C : Spec w p loose mean mg mb f vs news d u P)
    (B : Below A₀ base outer h₀) (F : Fr h₀ L s.heap m) (X : (Mine.h0.heap_1_1 w.params).In h₀) (N : News h₀ L s.heap news) (T : Top p loose mean mg mb h₀) (hk : cs.kind = .function) (hd : dp + d < recursionLimit) (hu : un + u < cLine)
    (ret : ∀ r news' h' tk', Fr h₀ L h' m → News h₀ L h' news' → P news' r → Q r { s with heap := h', toks := tk' }) :
    wpAny (model PR w) (ktrTop dp un gd cn cs L a ccd cl outer) (call (.ref f) vs) Q E s := C _ _ _ _ _ _ _ _ _ _ _ _ _ _ _ _ _ B F X N T hk hd hu ret

abbrev mEs (P : Params) (kt : Nat → Tok) (tx : Array UInt8) (tt : Tok) (pt : Array UInt8) (tp t60 : Tok) (dep : Int) (td : Tok) (lev : Int) (tl : Tok) (sa la : Addr) : List DictEntry :=
  [⟨PyData.keyHash P "text", .str "text" (kt 0), .bytes tx tt⟩,
   ⟨PyData.keyHash P "pattern", .str "pattern" (kt 1), .bytes pt tp⟩,
   ⟨PyData.keyHash P "most_depth", .str "most_depth" (kt 2), .int 60 t60⟩,
   ⟨PyData.keyHash P "tick", .str "tick" (kt 3), .none⟩,
   ⟨PyData.keyHash P "depth", .str "depth" (kt 4), .int dep td⟩,
   ⟨PyData.keyHash P "level", .str "level" (kt 5), .int lev tl⟩,
   ⟨PyData.keyHash P "starts", .str "starts" (kt 6), .ref sa⟩,
   ⟨PyData.keyHash P "lengths", .str "lengths" (kt 7), .ref la⟩]


theorem at_val {pk : List Int} {i : Int} (h : ¬ i < (pk.length : Int)) (h0 : 0 ≤ i) : pk.getD i.toNat 0 = 0 := by
  rw [List.getD_eq_getElem?_getD, List.getElem?_eq_none (by omega)]; rfl

theorem dropN {h₀ h : Heap} {L : Addr} {news : List (Addr × Obj)} {a : Addr × Obj} (N : News h₀ L h (a :: news)) : News h₀ L h news := fun p hp => N p (.tail _ hp)


def Stop (P : Prop) : Prop := P
theorem stop_ {P : Prop} (h : Stop P) : P := h
theorem Stop.go {P : Prop} (h : P) : Stop P := h

def WEnd {σ : Type} (h₀ : Heap) (L : Addr) (s : Shared) (Led : σ → List (Addr × Obj)) (ps : σ → List (Str × Value)) (P : σ → Prop) (μ : σ → Nat) (c : σ) (s₂ : Shared) : Prop :=
  ∃ (c' : σ) (h' : Heap) (tk : Nat) (m' : Str → Option Value) (news' : List (Addr × Obj)), s₂ = { s with heap := h', toks := tk } ∧ Fr h₀ L h' m' ∧ News h₀ L h' news' ∧ (∀ p ∈ Led c', p ∈ news') ∧ (∀ p ∈ ps c', m' p.1 = some p.2) ∧ P c' ∧ μ c' < μ c
def WPost {σ : Type} (h₀ : Heap) (L : Addr) (s : Shared) (Led : σ → List (Addr × Obj)) (ps : σ → List (Str × Value)) (P : σ → Prop) (μ : σ → Nat) (Q : Flow → Shared → Prop) (c : σ) (f : Flow) (s₂ : Shared) : Prop :=
  match f with
  | .ret v => Q (.ret v) s₂
  | .brk => Q .next s₂
  | _ => WEnd h₀ L s Led ps P μ c s₂
section
variable {σ : Type} {h₀ : Heap} {L : Addr} {s : Shared} {Led : σ → List (Addr × Obj)} {ps : σ → List (Str × Value)} {P : σ → Prop} {μ : σ → Nat} {Q : Flow → Shared → Prop} {c : σ} {v : Value} {s₂ : Shared}
theorem wpost_ret (h : Q (.ret v) s₂) : WPost h₀ L s Led ps P μ Q c (.ret v) s₂ := h
theorem wpost_brk (h : Q .next s₂) : WPost h₀ L s Led ps P μ Q c .brk s₂ := h
theorem wpost_next (h : WEnd h₀ L s Led ps P μ c s₂) : WPost h₀ L s Led ps P μ Q c .next s₂ := h
theorem wpost_cont (h : WEnd h₀ L s Led ps P μ c s₂) : WPost h₀ L s Led ps P μ Q c .cont s₂ := h
end
theorem w_end {σ : Type} {h₀ : Heap} {L : Addr} {s : Shared} {Led : σ → List (Addr × Obj)} {ps : σ → List (Str × Value)} {P : σ → Prop} {μ : σ → Nat} {c : σ} {h' : Heap} {tk : Nat} {m' : Str → Option Value} {news' : List (Addr × Obj)} (c' : σ)
    (F : Fr h₀ L h' m') (N : News h₀ L h' news') (hn : ∀ p ∈ Led c', p ∈ news') (hk : ∀ p ∈ ps c', m' p.1 = some p.2) (hp : P c') (hm : μ c' < μ c) :
    WEnd h₀ L s Led ps P μ c { s with heap := h', toks := tk } := ⟨c', h', tk, m', news', rfl, F, N, hn, hk, hp, hm⟩
theorem w_while {prog : Program} {w : World} {A : Around} {E : Value → Shared → Prop} {Q : Flow → Shared → Prop} {s : Shared} {env : Env} {h₀ : Heap} {L : Addr}
    {σ : Type} {test : PySem.Expr} {body : List Stmt} {pos : Pos} {m₀ : Str → Option Value} {news₀ : List (Addr × Obj)} (Led : σ → List (Addr × Obj)) (ps : σ → List (Str × Value)) (P : σ → Prop) (μ : σ → Nat) (c₀ : σ)
    (F : Fr h₀ L s.heap m₀) (N : News h₀ L s.heap news₀) (hn : ∀ p ∈ Led c₀, p ∈ news₀) (hk : ∀ p ∈ ps c₀, m₀ p.1 = some p.2) (hp : P c₀)
    (turn : ∀ (c : σ) (u : Str → Option Value) h tk, P c → Fr h₀ L h (kstB u (ps c)) → News h₀ L h (Led c) →
      wpAny (model prog w) A (isTrue test env (eval test env)) (fun b s₂ =>
        if b = true then wpAny (model prog w) A (execs body env) (WPost h₀ L s Led ps P μ Q c) E s₂ else Q .next s₂) E { s with heap := h, toks := tk })
    (hE : PassesOwn (model prog w) A env E := by passes_own) :
    wpAny (model prog w) A (exec (.While test body [] pos) env) Q E s := by
  refine While_inv2 (fun n m nx => ∃ c : σ, nx = Led c ∧ μ c = n ∧ (∀ p ∈ ps c, m p.1 = some p.2) ∧ P c) F (news := Led c₀) (fun p hp => N p (hn p hp)) ⟨c₀, rfl, rfl, hk, hp⟩ ?_ hE
  rintro n m₁ nx h tk F₁ N₁ ⟨c, hnx, hsz, h1, hp'⟩
  rw [hnx] at N₁
  rw [← hsz]
  have em : kstB m₁ (ps c) = m₁ := by
    funext y
    exact kstB_eq h1 fun _ => rfl
  refine wpAny_mono (turn c m₁ h tk hp' (by rw [em]; exact F₁) N₁) (fun b s₂ p => ?_) fun _ _ x => x
  cases b with
  | false => simpa using p
  | true =>
    simp only [if_true] at p ⊢
    refine wpAny_mono p (fun f s₃ q => ?_) fun _ _ x => x
    cases f with
    | ret v => exact q
    | brk => exact q
    | next =>
      obtain ⟨c', h', tk', m', news', rfl, F', N', hn', hk9, hp9, hm9⟩ := q
      exact ⟨h', tk', m', Led c', μ c', rfl, F', fun p hp => N' p (hn' p hp), hm9, c', rfl, rfl, hk9, hp9⟩
    | cont =>
      obtain ⟨c', h', tk', m', news', rfl, F', N', hn', hk9, hp9, hm9⟩ := q
      exact ⟨h', tk', m', Led c', μ c', rfl, F', fun p hp => N' p (hn' p hp), hm9, c', rfl, rfl, hk9, hp9⟩

abbrev MLed (w : World) (kt : Nat → Tok) (tx : Array UInt8) (tt : Tok) (pt : Array UInt8) (tp t60 : Tok) (x dx : Addr) (dep : Int) (td : Tok) (lev : Int) (tl : Tok) (sa la : Addr) (rest : List (Addr × Obj)) : List (Addr × Obj) :=
  (x, instObj 253 dx) :: (dx, dictOf (mEs w.params kt tx tt pt tp t60 dep td lev tl sa la) 8) :: rest
def MPost (w : World) (kt : Nat → Tok) (tx : Array UInt8) (tt : Tok) (pt : Array UInt8) (tp t60 : Tok) (x dx : Addr) (dep : Int) (R : Int → Addr → Addr → List (Addr × Obj) → Value → Prop) (news' : List (Addr × Obj)) (r : Value) : Prop :=
  ∃ td' lev' tl' sa' la' rest', news' = MLed w kt tx tt pt tp t60 x dx dep td' lev' tl' sa' la' rest' ∧ (∀ q ∈ rest', q.1 ≠ dx) ∧ R lev' sa' la' rest' r

theorem news_perm2 {h₀ h : Heap} {L : Addr} {a b c d : Addr × Obj} {r : List (Addr × Obj)} (N : News h₀ L h (a :: b :: c :: d :: r)) : News h₀ L h (c :: d :: a :: b :: r) := by
  intro p hp
  simp only [List.mem_cons] at hp
  refine N p ?_
  simp only [List.mem_cons]
  rcases hp with h | h | h | h | h <;> simp [h]
theorem mdel {α β : Type} {f : α → β → Prop} {a : α} {b : β} (h : f a b) : f a b := h

theorem FlushC1 : True ∧ True := by
  w_top off
  walk1 <;> trivial
section
variable {w : World} {p : Program} {loose : List Str} {mean : ExcName → Option Value} {mg mb : Str → Option Value} {kt : Nat → Tok} {tx pt : Array UInt8} {tt tp t60 td tl : Tok} {dep lev : Int} {sa la x dx : Addr} {news rest : List (Addr × Obj)}

set_option maxHeartbeats 8000000 in
theorem count_ok (m1 : (x, instObj 253 dx) ∈ news) (m2 : (dx, dictOf (mEs w.params kt tx tt pt tp t60 dep td lev tl sa la) 8) ∈ news) :
    Spec w p loose mean mg mb 119 [.ref x] news 1 8 (fun news' r => news = news' ∧ r = .none) := by
  unfold Spec
  intro dp un gd cn cs a ccd cl outer A₀ base h₀ L m s Q E B F X N T hk hd hu hret
  (try dsimp only [MLed] at N)
  refine wpAny_call ?_
  k_dflt (refine' code_def ?k1 ?k2 ?k3 ?k4 ?k5 ?kA ?kF ?kK ?k6 ?k7 ?k8 ?k9 ?kB ?_ ?c2 ?c3 ?c4 ?c5; (case kA => exact rfl); (case kF => exact rfl); (case kK => assumption); (case k1 => k_asm); (case k2 => k_asm); (case k3 => k_asm); (case k4 => k_asm); (case k5 => k_asm); (case k6 => k_is); (case k7 => k_is); (case k8 => ktr_room); (case k9 => exact BindsTo.of_eq (show bindArgs _ _ = pure [(("self" : Str), _)] from rfl)); (case c5 => decide); (case kB => exact locs rfl); (case c2 => exact rfl); (case c3 => exact rfl); (case c4 => exact rfl); k_whole; intro g' L' h' FG' F' N' B' X' T'; (try dsimp only); (try k_fold))
  k_steps
  all_goals exact hret _ _ _ _ (by k_asm) (by k_asm) ⟨rfl, rfl⟩

set_option maxHeartbeats 8000000 in
theorem at_ok {pk : List Int} {i : Int} {ti : Tok} (hp : KBw.bInts pt = pk) (hz : pk.length ≤ 1000) (hi : 0 ≤ i) (m1 : (x, instObj 253 dx) ∈ news) (m2 : (dx, dictOf (mEs w.params kt tx tt pt tp t60 dep td lev tl sa la) 8) ∈ news) :
    Spec w p loose mean mg mb 133 [.ref x, .int i ti] news 1 8 (fun news' r => news = news' ∧ ∃ t, r = .int (pk.getD i.toNat 0) t) := by
  unfold Spec
  intro dp un gd cn cs a ccd cl outer A₀ base h₀ L m s Q E B F X N T hk hd hu hret
  (try dsimp only [MLed] at N)
  refine wpAny_call ?_
  k_dflt (refine' code_def ?k1 ?k2 ?k3 ?k4 ?k5 ?kA ?kF ?kK ?k6 ?k7 ?k8 ?k9 ?kB ?_ ?c2 ?c3 ?c4 ?c5; (case kA => exact rfl); (case kF => exact rfl); (case kK => assumption); (case k1 => k_asm); (case k2 => k_asm); (case k3 => k_asm); (case k4 => k_asm); (case k5 => k_asm); (case k6 => k_is); (case k7 => k_is); (case k8 => ktr_room); (case k9 => exact BindsTo.of_eq (show bindArgs _ _ = pure [(("self" : Str), _), (("p" : Str), _)] from rfl)); (case c5 => decide); (case kB => exact locs rfl); (case c2 => exact rfl); (case c3 => exact rfl); (case c4 => exact rfl); k_whole; intro g' L' h' FG' F' N' B' X' T'; (try dsimp only); (try k_fold))
  k_steps
  all_goals first
    | exact hret _ _ _ _ (by k_asm) (by k_asm) ⟨rfl, _, rfl⟩
    | exact hret _ _ _ _ (by k_asm) (by k_asm) ⟨rfl, _, by rw [at_val (by assumption) hi]⟩

end

theorem FlushC2 : True ∧ True := by
  w_top off
  walk1 <;> trivial
section
variable {w : World} {p : Program} {loose : List Str} {mean : ExcName → Option Value} {mg mb : Str → Option Value} {kt : Nat → Tok} {tx pt : Array UInt8} {tt tp t60 td tl : Tok} {dep lev : Int} {sa la x dx : Addr} {news rest : List (Addr × Obj)}
local macro_rules | `(tactic| walk_at "call ref") => `(tactic| (k_here; k_dflt (
  refine' spec_use (at_ok ?hp ?hz ?hi ?m1 ?m2) ?k1 ?k2 ?k3 ?k4 ?k5 ?kK ?kd ?ku ?_
  (case k1 => k_asm); (case k2 => k_asm); (case k3 => k_asm); (case k4 => k_asm); (case k5 => k_asm); (case kK => first | exact rfl | assumption)
  (case m1 => k_mem); (case m2 => k_mem); (case kd => ktr_room); (case ku => ktr_units)
  (case hp => assumption); (case hz => assumption); (case hi => first | assumption | omega)
  intro r9 n9 h9 tk9 F9 N9 P9
  obtain ⟨e9, t9, e9'⟩ := P9
  subst e9 e9'
  (try dsimp only); (try k_fold); (try k_sweep))))
local macro_rules | `(tactic| walk_at "ite") => `(tactic| (k_here; k_openite; k_spoken; first
  | (refine ite_pos (by (try simp only [beq_iff_eq, bne_iff_ne, ne_eq, decide_eq_true_eq, Bool.not_eq_true', decide_eq_false_iff_not, beq_eq_false_iff_ne, Bool.and_eq_true, Bool.or_eq_true]); first | assumption | omega) ?_; walk_say "MINE pos")
  | (refine ite_neg (by (try simp only [beq_iff_eq, bne_iff_ne, ne_eq, decide_eq_true_eq, Bool.not_eq_true', decide_eq_false_iff_not, beq_eq_false_iff_ne, Bool.and_eq_true, Bool.or_eq_true]); first | assumption | omega) ?_; walk_say "MINE neg")))

set_option maxHeartbeats 8000000 in
theorem class_end_ok {pk : List Int} {i : Int} {ti : Tok} (hp : KBw.bInts pt = pk) (hz : pk.length ≤ 1000) (hi : 0 ≤ i) (h1 : pk.getD i.toNat 0 ≠ 37) (h2 : pk.getD i.toNat 0 ≠ 91) (m1 : (x, instObj 253 dx) ∈ news) (m2 : (dx, dictOf (mEs w.params kt tx tt pt tp t60 dep td lev tl sa la) 8) ∈ news) :
    Spec w p loose mean mg mb 140 [.ref x, .int i ti] news 2 16 (fun news' r => news = news' ∧ ∃ t, r = .int (i + 1) t) := by
  unfold Spec
  intro dp un gd cn cs a ccd cl outer A₀ base h₀ L m s Q E B F X N T hk hd hu hret
  (try dsimp only [MLed] at N)
  refine wpAny_call ?_
  k_dflt (refine' code_def ?k1 ?k2 ?k3 ?k4 ?k5 ?kA ?kF ?kK ?k6 ?k7 ?k8 ?k9 ?kB ?_ ?c2 ?c3 ?c4 ?c5; (case kA => exact rfl); (case kF => exact rfl); (case kK => assumption); (case k1 => k_asm); (case k2 => k_asm); (case k3 => k_asm); (case k4 => k_asm); (case k5 => k_asm); (case k6 => k_is); (case k7 => k_is); (case k8 => ktr_room); (case k9 => exact BindsTo.of_eq (show bindArgs _ _ = pure [(("self" : Str), _), (("p" : Str), _)] from rfl)); (case c5 => decide); (case kB => exact locs rfl); (case c2 => exact rfl); (case c3 => exact rfl); (case c4 => exact rfl); k_whole; intro g' L' h' FG' F' N' B' X' T'; (try dsimp only); (try k_fold))
  k_steps
  all_goals exact hret _ _ _ _ (by k_asm) (by k_asm) ⟨rfl, _, rfl⟩

end

theorem FlushC3 : True ∧ True := by
  w_top off
  walk1 <;> trivial
theorem single_f {a b i : Int} {n : Nat} (h : (n : Int) ≤ i) : Value.bool false = .bool (decide (i < (n : Int) ∧ (a = 46 ∨ a = b))) := by
  rw [decide_eq_false (fun q => by omega)]
theorem single_t {a b i : Int} {n : Nat} (h : ¬ (n : Int) ≤ i) (h1 : a = 46) : Value.bool true = .bool (decide (i < (n : Int) ∧ (a = 46 ∨ a = b))) := by
  rw [decide_eq_true ⟨by omega, .inl h1⟩]
theorem single_e {a b i : Int} {n : Nat} (h : ¬ (n : Int) ≤ i) (h1 : a ≠ 46) : Value.bool (a == b) = .bool (decide (i < (n : Int) ∧ (a = 46 ∨ a = b))) := by
  by_cases q : a = b
  · rw [decide_eq_true ⟨by omega, .inr q⟩, beq_iff_eq.mpr q]
  · rw [decide_eq_false (fun z => z.2.elim h1 q), beq_eq_false_iff_ne.mpr q]
section
variable {w : World} {p : Program} {loose : List Str} {mean : ExcName → Option Value} {mg mb : Str → Option Value} {kt : Nat → Tok} {tx pt : Array UInt8} {tt tp t60 td tl : Tok} {dep lev : Int} {sa la x dx : Addr} {news rest : List (Addr × Obj)}
local macro_rules | `(tactic| walk_at "ite") => `(tactic| (k_here; k_openite; k_spoken; first
  | (refine ite_pos (by (try simp only [beq_iff_eq, bne_iff_ne, ne_eq, decide_eq_true_eq, Bool.not_eq_true', decide_eq_false_iff_not, beq_eq_false_iff_ne, Bool.and_eq_true, Bool.or_eq_true]); first | assumption | omega) ?_; walk_say "MINE pos")
  | (refine ite_neg (by (try simp only [beq_iff_eq, bne_iff_ne, ne_eq, decide_eq_true_eq, Bool.not_eq_true', decide_eq_false_iff_not, beq_eq_false_iff_ne, Bool.and_eq_true, Bool.or_eq_true]); first | assumption | omega) ?_; walk_say "MINE neg")))

set_option maxHeartbeats 8000000 in
theorem is_single_ok {pk xk : List Int} {i j e : Int} {ti tj te : Tok} (hp : KBw.bInts pt = pk) (hz : pk.length ≤ 1000) (ht : KBw.bInts tx = xk) (htz : xk.length ≤ 1000) (hi : 0 ≤ i) (hj : 0 ≤ j) (hj2 : j < (pk.length : Int)) (h1 : pk.getD j.toNat 0 ≠ 37) (h2 : pk.getD j.toNat 0 ≠ 91) (m1 : (x, instObj 253 dx) ∈ news) (m2 : (dx, dictOf (mEs w.params kt tx tt pt tp t60 dep td lev tl sa la) 8) ∈ news) :
    Spec w p loose mean mg mb 154 [.ref x, .int i ti, .int j tj, .int e te] news 1 8 (fun news' r => news = news' ∧ r = .bool (decide (i < (xk.length : Int) ∧ (pk.getD j.toNat 0 = 46 ∨ pk.getD j.toNat 0 = xk.getD i.toNat 0)))) := by
  unfold Spec
  intro dp un gd cn cs a ccd cl outer A₀ base h₀ L m s Q E B F X N T hk hd hu hret
  (try dsimp only [MLed] at N)
  refine wpAny_call ?_
  k_dflt (refine' code_def ?k1 ?k2 ?k3 ?k4 ?k5 ?kA ?kF ?kK ?k6 ?k7 ?k8 ?k9 ?kB ?_ ?c2 ?c3 ?c4 ?c5; (case kA => exact rfl); (case kF => exact rfl); (case kK => assumption); (case k1 => k_asm); (case k2 => k_asm); (case k3 => k_asm); (case k4 => k_asm); (case k5 => k_asm); (case k6 => k_is); (case k7 => k_is); (case k8 => ktr_room); (case k9 => exact BindsTo.of_eq (show bindArgs _ _ = pure [(("self" : Str), _), (("s" : Str), _), (("p" : Str), _), (("end" : Str), _)] from rfl)); (case c5 => decide); (case kB => exact locs rfl); (case c2 => exact rfl); (case c3 => exact rfl); (case c4 => exact rfl); k_whole; intro g' L' h' FG' F' N' B' X' T'; (try dsimp only); (try k_fold))
  k_steps
  all_goals
    refine hret _ _ _ _ (by k_asm) (by first | k_asm | exact dropN (by k_asm)) ⟨rfl, ?_⟩
  all_goals first
    | exact single_f (by assumption)
    | exact single_t (by assumption) (by assumption)
    | exact single_e (by assumption) (by assumption)

end

theorem FlushC4 : True ∧ True := by
  w_top off
  walk1 <;> trivial
def LitTo (xk pk : List Int) (i : Int) (j : Nat) : Prop := ∀ q : Nat, q < j → i + q < (xk.length : Int) ∧ pk.getD q 0 = xk.getD (i + q).toNat 0
theorem LitTo.zero {xk pk : List Int} {i : Int} : LitTo xk pk i 0 := fun q h => absurd h (Nat.not_lt_zero q)
theorem LitTo.succ {xk pk : List Int} {i : Int} {j : Nat} (h : LitTo xk pk i j) (h1 : i + j < (xk.length : Int)) (h2 : pk.getD j 0 = xk.getD (i + j).toNat 0) : LitTo xk pk i (j + 1) := by
  intro q hq
  rcases Nat.lt_succ_iff_lt_or_eq.mp hq with k | k
  · exact h q k
  · subst k; exact ⟨h1, h2⟩
theorem ab0 {pk : List Int} (hab : ∀ c ∈ pk, c = 97 ∨ c = 98) (q : Nat) : pk.getD q 0 = 97 ∨ pk.getD q 0 = 98 ∨ pk.getD q 0 = 0 := by
  rw [List.getD_eq_getElem?_getD]
  cases h : pk[q]? with
  | none => exact .inr (.inr rfl)
  | some c => rcases hab c (List.mem_of_getElem? h) with k | k <;> simp [k]

theorem lit_turn {xk pk : List Int} {i a b : Int} (ha : a = i + b) (hb : 0 ≤ b) (hb2 : b < (pk.length : Int)) (h : a < (xk.length : Int) ∧ (pk.getD b.toNat 0 = 46 ∨ pk.getD b.toNat 0 = xk.getD a.toNat 0)) (hl : LitTo xk pk i b.toNat) (h46 : pk.getD b.toNat 0 ≠ 46) :
    a + 1 = i + (b + 1) ∧ 0 ≤ b + 1 ∧ b + 1 ≤ (pk.length : Int) ∧ LitTo xk pk i (b + 1).toNat := by
  have e : (b + 1).toNat = b.toNat + 1 := by omega
  have e2 : i + (b.toNat : Int) = a := by omega
  refine ⟨by omega, by omega, by omega, ?_⟩
  rw [e]
  exact hl.succ (by rw [e2]; exact h.1) (by rw [e2]; exact h.2.elim (fun q => absurd q h46) id)
theorem lit_miss {xk pk : List Int} {i a b : Int} (ha : a = i + b) (hb : 0 ≤ b) (hb2 : b < (pk.length : Int)) (h : ¬ (a < (xk.length : Int) ∧ (pk.getD b.toNat 0 = 46 ∨ pk.getD b.toNat 0 = xk.getD a.toNat 0))) : ¬ LitTo xk pk i pk.length := by
  intro hl
  have q := hl b.toNat (by omega)
  have e2 : i + (b.toNat : Int) = a := by omega
  rw [e2] at q
  exact h ⟨q.1, .inr q.2⟩

section
variable {w : World} {p : Program} {loose : List Str} {mean : ExcName → Option Value} {mg mb : Str → Option Value} {kt : Nat → Tok} {tx pt : Array UInt8} {tt tp t60 td tl : Tok} {dep lev : Int} {sa la x dx : Addr} {news rest : List (Addr × Obj)}
local macro_rules | `(tactic| walk_at "call ref") => `(tactic| (k_here; k_dflt (
  refine' spec_use (count_ok ?m1 ?m2) ?k1 ?k2 ?k3 ?k4 ?k5 ?kK ?kd ?ku ?_
  (case k1 => k_asm); (case k2 => k_asm); (case k3 => k_asm); (case k4 => k_asm); (case k5 => k_asm); (case kK => first | exact rfl | assumption)
  (case m1 => k_mem); (case m2 => k_mem); (case kd => ktr_room); (case ku => ktr_units)
  intro r9 n9 h9 tk9 F9 N9 P9
  obtain ⟨e9, e9'⟩ := P9
  subst e9 e9'
  (try dsimp only); (try k_fold); (try k_sweep))))
local macro_rules | `(tactic| walk_at "call ref") => `(tactic| (k_here; k_dflt (
  refine' spec_use (at_ok ?hp ?hz ?hi ?m1 ?m2) ?k1 ?k2 ?k3 ?k4 ?k5 ?kK ?kd ?ku ?_
  (case k1 => k_asm); (case k2 => k_asm); (case k3 => k_asm); (case k4 => k_asm); (case k5 => k_asm); (case kK => first | exact rfl | assumption)
  (case m1 => k_mem); (case m2 => k_mem); (case kd => ktr_room); (case ku => ktr_units)
  (case hp => assumption); (case hz => assumption); (case hi => first | assumption | omega)
  intro r9 n9 h9 tk9 F9 N9 P9
  obtain ⟨e9, t9, e9'⟩ := P9
  subst e9 e9'
  (try dsimp only); (try k_fold); (try k_sweep))))
local macro_rules | `(tactic| walk_at "call ref") => `(tactic| (k_here; k_dflt (
  refine' spec_use (class_end_ok ?hp ?hz ?hi ?h1 ?h2 ?m1 ?m2) ?k1 ?k2 ?k3 ?k4 ?k5 ?kK ?kd ?ku ?_
  (case k1 => k_asm); (case k2 => k_asm); (case k3 => k_asm); (case k4 => k_asm); (case k5 => k_asm); (case kK => first | exact rfl | assumption)
  (case m1 => k_mem); (case m2 => k_mem); (case kd => ktr_room); (case ku => ktr_units)
  (case hp => assumption); (case hz => assumption); (case hi => first | assumption | omega); (case h1 => omega); (case h2 => omega)
  intro r9 n9 h9 tk9 F9 N9 P9
  obtain ⟨e9, t9, e9'⟩ := P9
  subst e9 e9'
  (try dsimp only); (try k_fold); (try k_sweep))))
local macro_rules | `(tactic| walk_at "call ref") => `(tactic| (k_here; k_dflt (
  refine' spec_use (is_single_ok ?hp ?hz ?ht ?htz ?hi ?hj ?hj2 ?h1 ?h2 ?m1 ?m2) ?k1 ?k2 ?k3 ?k4 ?k5 ?kK ?kd ?ku ?_
  (case k1 => k_asm); (case k2 => k_asm); (case k3 => k_asm); (case k4 => k_asm); (case k5 => k_asm); (case kK => first | exact rfl | assumption)
  (case m1 => k_mem); (case m2 => k_mem); (case kd => ktr_room); (case ku => ktr_units)
  (case hp => assumption); (case hz => assumption); (case ht => assumption); (case htz => assumption); (case hi => first | assumption | omega); (case hj => first | assumption | omega); (case hj2 => first | assumption | omega); (case h1 => omega); (case h2 => omega)
  intro r9 n9 h9 tk9 F9 N9 P9
  obtain ⟨e9, e9'⟩ := P9
  subst e9 e9'
  (try dsimp only); (try k_fold); (try k_sweep))))
local macro_rules | `(tactic| walk_at "ite") => `(tactic| (k_here; k_openite; k_spoken; first
  | (refine ite_pos (by (try simp only [beq_iff_eq, bne_iff_ne, ne_eq, decide_eq_true_eq, Bool.not_eq_true', decide_eq_false_iff_not, beq_eq_false_iff_ne, Bool.and_eq_true, Bool.or_eq_true]); first | assumption | omega) ?_; walk_say "MINE pos")
  | (refine ite_neg (by (try simp only [beq_iff_eq, bne_iff_ne, ne_eq, decide_eq_true_eq, Bool.not_eq_true', decide_eq_false_iff_not, beq_eq_false_iff_ne, Bool.and_eq_true, Bool.or_eq_true]); first | assumption | omega) ?_; walk_say "MINE neg")))
local macro_rules | `(tactic| k_mem) => `(tactic| first | exact List.Mem.head _ | ktr_member | (refine' List.mem_cons_of_mem _ ?_; k_mem))
local macro_rules | `(tactic| walk_at "WPost") => `(tactic| (first | with_reducible refine wpost_ret ?_ | with_reducible refine wpost_next ?_ | with_reducible refine wpost_cont ?_ | with_reducible refine wpost_brk ?_ | dsimp only [WPost]))
local macro_rules | `(tactic| walk_at "exec While") => `(tactic| (k_here; refine stop_ ?_))
local macro_rules | `(tactic| walk_at "exec While Compare") => `(tactic| (k_here; refine stop_ ?_))
local macro_rules | `(tactic| walk_at "exec While Compare cons nil") => `(tactic| (k_here; refine stop_ ?_))

set_option maxHeartbeats 8000000 in
theorem mh_lit {pk xk : List Int} {i : Int} {ti tz : Tok} (hp : KBw.bInts pt = pk) (hz : pk.length ≤ 1000) (ht : KBw.bInts tx = xk) (htz : xk.length ≤ 1000) (hab : ∀ c ∈ pk, c = 97 ∨ c = 98) (hi : 0 ≤ i) (m1 : (x, instObj 253 dx) ∈ news) (m2 : (dx, dictOf (mEs w.params kt tx tt pt tp t60 dep td lev tl sa la) 8) ∈ news) :
    Spec w p loose mean mg mb 168 [.ref x, .int i ti, .int 0 tz] news 3 32 (fun news' r => news = news' ∧ ((LitTo xk pk i pk.length ∧ ∃ t, r = .int (i + pk.length) t) ∨ (¬ LitTo xk pk i pk.length ∧ r = .none))) := by
  unfold Spec
  intro dp un gd cn cs a ccd cl outer A₀ base h₀ L m s Q E B F X N T hk hd hu hret
  (try dsimp only [MLed] at N)
  refine wpAny_call ?_
  k_dflt (refine' code_def ?k1 ?k2 ?k3 ?k4 ?k5 ?kA ?kF ?kK ?k6 ?k7 ?k8 ?k9 ?kB ?_ ?c2 ?c3 ?c4 ?c5; (case kA => exact rfl); (case kF => exact rfl); (case kK => assumption); (case k1 => k_asm); (case k2 => k_asm); (case k3 => k_asm); (case k4 => k_asm); (case k5 => k_asm); (case k6 => k_is); (case k7 => k_is); (case k8 => ktr_room); (case k9 => exact BindsTo.of_eq (show bindArgs _ _ = pure [(("self" : Str), _), (("s" : Str), _), (("p" : Str), _)] from rfl)); (case c5 => decide); (case kB => exact locs rfl); (case c2 => exact rfl); (case c3 => exact rfl); (case c4 => exact rfl); k_whole; intro g' L' h' FG' F' N' B' X' T'; (try dsimp only); (try k_fold))
  k_steps
  refine Stop.go ?_
  rename Fr _ _ _ _ => F1
  rename News _ _ _ _ => N1
  refine w_while (σ := Int × Int × Tok × Tok) (fun _ => news) (fun c => [(("self" : Str), Value.ref x), (("s" : Str), Value.int c.1 c.2.2.1), (("p" : Str), Value.int c.2.1 c.2.2.2)])
    (fun c => c.1 = i + c.2.1 ∧ 0 ≤ c.2.1 ∧ c.2.1 ≤ pk.length ∧ LitTo xk pk i c.2.1.toNat) (fun c => (pk.length - c.2.1).toNat) (i, 0, ti, tz) F1 N1 (fun _ h => h) (by kst_all) ⟨(Int.add_zero i).symm, Int.le_refl 0, Int.natCast_nonneg _, LitTo.zero⟩ ?_
  rintro ⟨a, b, ta, tb⟩ u h tk ⟨ha, hb0, hb1, hl⟩ F2 N2
  dsimp only at ha hb0 hb1 hl
  have A1 := ab0 hab b.toNat
  have A2 := ab0 hab (b + 1).toNat
  dsimp only
  k_steps
  · exact w_end (_, _, _, _) (by k_asm) (by k_asm) (fun _ hp => .tail _ (.tail _ hp)) (by kst_all) (by exact lit_turn ha hb0 (by assumption) (by assumption) hl (by omega)) (by dsimp only; omega)
  · exact hret _ _ _ _ (by k_asm) (dropN (by k_asm)) ⟨rfl, .inr ⟨lit_miss ha hb0 (by assumption) (by assumption), rfl⟩⟩
  · have e : b = pk.length := by omega
    subst e ha
    exact hret _ _ _ _ (by k_asm) (by k_asm) ⟨rfl, .inl ⟨hl, _, rfl⟩⟩

end

theorem FlushC5 : True ∧ True := by
  w_top off
  walk1 <;> trivial
section
variable {w : World} {p : Program} {loose : List Str} {mean : ExcName → Option Value} {mg mb : Str → Option Value} {kt : Nat → Tok} {tx pt : Array UInt8} {tt tp t60 td tl : Tok} {dep lev : Int} {sa la x dx : Addr} {news rest : List (Addr × Obj)}
local macro_rules | `(tactic| walk_at "ite") => `(tactic| (k_here; k_openite; k_spoken; first
  | (refine ite_pos (by (try simp only [beq_iff_eq, bne_iff_ne, ne_eq, decide_eq_true_eq, Bool.not_eq_true', decide_eq_false_iff_not, beq_eq_false_iff_ne, Bool.and_eq_true, Bool.or_eq_true]); first | assumption | omega) ?_; walk_say "MINE pos")
  | (refine ite_neg (by (try simp only [beq_iff_eq, bne_iff_ne, ne_eq, decide_eq_true_eq, Bool.not_eq_true', decide_eq_false_iff_not, beq_eq_false_iff_ne, Bool.and_eq_true, Bool.or_eq_true]); first | assumption | omega) ?_; walk_say "MINE neg")))
local macro_rules | `(tactic| k_mem) => `(tactic| first | exact List.Mem.head _ | ktr_member | (refine' List.mem_cons_of_mem _ ?_; k_mem))
local macro_rules | `(tactic| k_all) => `(tactic| assumption)
local macro_rules | `(tactic| walk_at "call ref") => `(tactic| (k_here; k_dflt (
  refine' spec_use (count_ok ?m1 ?m2) ?k1 ?k2 ?k3 ?k4 ?k5 ?kK ?kd ?ku ?_
  (case k1 => k_asm); (case k2 => k_asm); (case k3 => k_asm); (case k4 => k_asm); (case k5 => k_asm); (case kK => first | exact rfl | assumption)
  (case m1 => k_mem); (case m2 => k_mem); (case kd => ktr_room); (case ku => ktr_units)
  intro r9 n9 h9 tk9 F9 N9 P9
  obtain ⟨e9, e9'⟩ := P9
  subst e9 e9'
  (try dsimp only); (try k_fold); (try k_sweep))))

set_option maxHeartbeats 8000000 in
theorem match_ok {R : Int → Addr → Addr → List (Addr × Obj) → Value → Prop} {i j : Int} {ti tj : Tok} {d u : Nat} (hx : @LT.lt Nat _ dx x) (hr : ∀ q ∈ rest, q.1 ≠ dx) (h0 : 0 ≤ dep) (h1 : dep < 60)
    (H : ∀ td', Spec w p loose mean mg mb 168 [.ref x, .int i ti, .int j tj] (MLed w kt tx tt pt tp t60 x dx (dep + 1) td' lev tl sa la rest) d u (MPost w kt tx tt pt tp t60 x dx (dep + 1) R)) :
    Spec w p loose mean mg mb 161 [.ref x, .int i ti, .int j tj] (MLed w kt tx tt pt tp t60 x dx dep td lev tl sa la rest) (d + 2) (u + 32) (MPost w kt tx tt pt tp t60 x dx dep R) := by
  unfold Spec
  intro dp un gd cn cs a ccd cl outer A₀ base h₀ L m s Q E B F X N T hk hd hu hret
  (try dsimp only [MLed] at N)
  refine wpAny_call ?_
  k_dflt (refine' code_def ?k1 ?k2 ?k3 ?k4 ?k5 ?kA ?kF ?kK ?k6 ?k7 ?k8 ?k9 ?kB ?_ ?c2 ?c3 ?c4 ?c5; (case kA => exact rfl); (case kF => exact rfl); (case kK => assumption); (case k1 => k_asm); (case k2 => k_asm); (case k3 => k_asm); (case k4 => k_asm); (case k5 => k_asm); (case k6 => k_is); (case k7 => k_is); (case k8 => ktr_room); (case k9 => exact BindsTo.of_eq (show bindArgs _ _ = pure [(("self" : Str), _), (("s" : Str), _), (("p" : Str), _)] from rfl)); (case c5 => decide); (case kB => exact locs rfl); (case c2 => exact rfl); (case c3 => exact rfl); (case c4 => exact rfl); k_whole; intro g' L' h' FG' F' N' B' X' T'; (try dsimp only); (try k_fold))
  k_steps
  k_dflt (refine' spec_use (H _) ?k1 ?k2 ?k3 ?k4 ?k5 ?kK ?kd ?ku ?_)
  (case k1 => k_asm); (case k2 => k_asm); (case k3 => k_asm); (case k4 => k_asm); (case k5 => k_asm); (case kK => first | exact rfl | assumption)
  (case kd => ktr_room); (case ku => ktr_units)
  intro r9 n9 h9 tk9 F9 N9 P9
  obtain ⟨td9, lev9, tl9, sa9, la9, rest9, e9, hr9, P9⟩ := P9
  subst e9
  (try dsimp only); (try k_fold); (try k_sweep)
  k_steps
  rename News _ _ _ _ => N8
  rw [show dep + 1 - 1 = dep by omega] at N8
  exact hret _ _ _ _ (by k_asm) N8 ⟨_, _, _, _, _, _, rfl, hr9, P9⟩

end

theorem FlushC6 : True ∧ True := by
  w_top off
  walk1 <;> trivial
section
variable {w : World} {p : Program} {loose : List Str} {mean : ExcName → Option Value} {mg mb : Str → Option Value} {kt : Nat → Tok} {tx pt : Array UInt8} {tt tp t60 td tl : Tok} {dep lev : Int} {sa la x dx : Addr} {news rest : List (Addr × Obj)}
local macro_rules | `(tactic| walk_at "ite") => `(tactic| (k_here; k_openite; k_spoken; first
  | (refine ite_pos (by (try simp only [beq_iff_eq, bne_iff_ne, ne_eq, decide_eq_true_eq, Bool.not_eq_true', decide_eq_false_iff_not, beq_eq_false_iff_ne, Bool.and_eq_true, Bool.or_eq_true]); first | assumption | omega) ?_; walk_say "MINE pos")
  | (refine ite_neg (by (try simp only [beq_iff_eq, bne_iff_ne, ne_eq, decide_eq_true_eq, Bool.not_eq_true', decide_eq_false_iff_not, beq_eq_false_iff_ne, Bool.and_eq_true, Bool.or_eq_true]); first | assumption | omega) ?_; walk_say "MINE neg")))
local macro_rules | `(tactic| k_mem) => `(tactic| first | exact List.Mem.head _ | ktr_member | (refine' List.mem_cons_of_mem _ ?_; k_mem))
local macro_rules | `(tactic| k_all) => `(tactic| assumption)

set_option maxHeartbeats 8000000 in
theorem reset_ok (hx : @LT.lt Nat _ dx x) (hr : ∀ q ∈ rest, q.1 ≠ dx) :
    Spec w p loose mean mg mb 126 [.ref x] (MLed w kt tx tt pt tp t60 x dx dep td lev tl sa la rest) 1 8 (fun news' r => r = .none ∧ ∃ td' tl' sa' la' rest', news' = MLed w kt tx tt pt tp t60 x dx 0 td' 0 tl' sa' la' rest' ∧ (∀ q ∈ rest', q.1 ≠ dx) ∧ rest' = (la', listOf #[] 0) :: (sa', listOf #[] 0) :: rest ∧ @LT.lt Nat _ x sa' ∧ @LT.lt Nat _ sa' la' ∧ (∀ q ∈ rest, @LT.lt Nat _ q.1 sa')) := by
  unfold Spec
  intro dp un gd cn cs a ccd cl outer A₀ base h₀ L m s Q E B F X N T hk hd hu hret
  (try dsimp only [MLed] at N)
  refine wpAny_call ?_
  k_dflt (refine' code_def ?k1 ?k2 ?k3 ?k4 ?k5 ?kA ?kF ?kK ?k6 ?k7 ?k8 ?k9 ?kB ?_ ?c2 ?c3 ?c4 ?c5; (case kA => exact rfl); (case kF => exact rfl); (case kK => assumption); (case k1 => k_asm); (case k2 => k_asm); (case k3 => k_asm); (case k4 => k_asm); (case k5 => k_asm); (case k6 => k_is); (case k7 => k_is); (case k8 => ktr_room); (case k9 => exact BindsTo.of_eq (show bindArgs _ _ = pure [(("self" : Str), _)] from rfl)); (case c5 => decide); (case kB => exact locs rfl); (case c2 => exact rfl); (case c3 => exact rfl); (case c4 => exact rfl); k_whole; intro g' L' h' FG' F' N' B' X' T'; (try dsimp only); (try k_fold))
  k_steps
  rename News _ _ _ _ => N8
  rename (_ ∧ _ ∧ _ ∧ AllLt _ rest) => q2
  rename (_ ∧ _ ∧ AllLt _ rest) => q1
  refine hret _ _ _ _ (by k_asm) (news_perm2 N8) ⟨rfl, _, _, _, _, _, rfl, ?_, rfl, q1.1, q2.1, fun q hq => tb_ltOf q1.2.2 q hq⟩
  intro q hq
  rcases List.mem_cons.mp hq with rfl | hq
  · exact Nat.ne_of_gt q2.2.2.1
  · rcases List.mem_cons.mp hq with rfl | hq
    · exact Nat.ne_of_gt q1.2.1
    · exact hr q hq

end

theorem FlushC7 : True ∧ True := by
  w_top off
  walk1 <;> trivial
abbrev MRes (rest : List (Addr × Obj)) (C : Prop) (e : Int) : Int → Addr → Addr → List (Addr × Obj) → Value → Prop :=
  fun _ _ _ rest' r => (∀ q ∈ rest, q ∈ rest') ∧ ((C ∧ ∃ t, r = .int e t) ∨ (¬ C ∧ r = .none))
theorem subN2 {a b : Addr × Obj} {r r' : List (Addr × Obj)} (h : ∀ q ∈ r, q ∈ r') : ∀ q ∈ a :: b :: r, q ∈ a :: b :: r' := by
  intro q hq
  simp only [List.mem_cons] at hq ⊢
  rcases hq with h1 | h1 | h1
  · exact .inl h1
  · exact .inr (.inl h1)
  · exact .inr (.inr (h q h1))
theorem subN3 {a b c : Addr × Obj} {r r' : List (Addr × Obj)} (h : ∀ q ∈ r, q ∈ r') : ∀ q ∈ c :: a :: b :: r, q ∈ c :: a :: b :: r' := by
  intro q hq
  rcases List.mem_cons.mp hq with h1 | h1
  · exact h1 ▸ .head _
  · exact .tail _ (subN2 h q h1)
abbrev tupObj (vs : Array Value) : Obj := { cls := .type "tuple", data := .seq vs }
def SRes (w : World) (kt : Nat → Tok) (tx : Array UInt8) (tt : Tok) (pt : Array UInt8) (tp t60 : Tok) (x dx : Addr) (rest : List (Addr × Obj)) (n : Nat) (C : Int → Prop) (e : Int → Int) (i : Int) (anch : Bool) (news' : List (Addr × Obj)) (r : Value) : Prop :=
  ∃ dep' td' lev' tl' sa' la',
      (∃ s q t t', i ≤ s ∧ s ≤ n ∧ C s ∧ (∀ s', i ≤ s' → s' < s → ¬ C s') ∧ (anch = true → s = i) ∧ r = .ref q ∧ q ≠ dx ∧ news' = (q, tupObj #[.int s t, .int (e s) t']) :: MLed w kt tx tt pt tp t60 x dx dep' td' lev' tl' sa' la' rest) ∨
      (r = .none ∧ (anch = false → ∀ s', i ≤ s' → s' ≤ n → ¬ C s') ∧ (anch = true → i ≤ n → ¬ C i) ∧ news' = MLed w kt tx tt pt tp t60 x dx dep' td' lev' tl' sa' la' rest)
section
variable {w : World} {p : Program} {loose : List Str} {mean : ExcName → Option Value} {mg mb : Str → Option Value} {kt : Nat → Tok} {tx pt : Array UInt8} {tt tp t60 td tl : Tok} {dep lev : Int} {sa la x dx : Addr} {news rest : List (Addr × Obj)}
local macro_rules | `(tactic| walk_at "ite") => `(tactic| (k_here; k_openite; k_spoken; first
  | (refine ite_pos (by (try simp only [beq_iff_eq, bne_iff_ne, ne_eq, decide_eq_true_eq, Bool.not_eq_true', decide_eq_false_iff_not, beq_eq_false_iff_ne, Bool.and_eq_true, Bool.or_eq_true]); first | assumption | omega) ?_; walk_say "MINE pos")
  | (refine ite_neg (by (try simp only [beq_iff_eq, bne_iff_ne, ne_eq, decide_eq_true_eq, Bool.not_eq_true', decide_eq_false_iff_not, beq_eq_false_iff_ne, Bool.and_eq_true, Bool.or_eq_true]); first | assumption | omega) ?_; walk_say "MINE neg")))
local macro_rules | `(tactic| k_mem) => `(tactic| first | exact List.Mem.head _ | ktr_member | (refine' List.mem_cons_of_mem _ ?_; k_mem))
local macro_rules | `(tactic| walk_at "WPost") => `(tactic| (first | with_reducible refine wpost_ret ?_ | with_reducible refine wpost_next ?_ | with_reducible refine wpost_cont ?_ | with_reducible refine wpost_brk ?_ | dsimp only [WPost]))
local macro_rules | `(tactic| walk_at "exec While") => `(tactic| (k_here; refine stop_ ?_))
local macro_rules | `(tactic| walk_at "exec While Compare") => `(tactic| (k_here; refine stop_ ?_))
local macro_rules | `(tactic| walk_at "exec While Compare cons nil") => `(tactic| (k_here; refine stop_ ?_))
local macro_rules | `(tactic| k_all) => `(tactic| assumption)
local macro_rules | `(tactic| walk_at "call ref") => `(tactic| (k_here; k_dflt (
  refine' spec_use (reset_ok ?hx ?hr) ?k1 ?k2 ?k3 ?k4 ?k5 ?kK ?kd ?ku ?_
  (case k1 => k_asm); (case k2 => k_asm); (case k3 => k_asm); (case k4 => k_asm); (case k5 => k_asm); (case kK => first | exact rfl | assumption)
  (case hx => assumption); (case hr => assumption); (case kd => ktr_room); (case ku => ktr_units)
  intro r9 n9 h9 tk9 F9 N9 P9
  obtain ⟨e9, td9, tl9, sa9, la9, rest9, e9', hr9, hE9, hs9, hl9, hq9⟩ := P9
  subst e9 e9'
  (try dsimp only); (try k_fold); (try k_sweep))))

set_option maxHeartbeats 8000000 in
theorem search_ok {xk : List Int} {C : Int → Prop} {e : Int → Int} {i : Int} {ti tj : Tok} {anch : Bool} {d u : Nat} (ht : KBw.bInts tx = xk) (htz : xk.length ≤ 1000) (hi : 0 ≤ i) (hx : @LT.lt Nat _ dx x) (hr : ∀ q ∈ rest, q.1 ≠ dx)
    (H : ∀ (s : Int) (ts : Tok) (td tl : Tok) (sa la : Addr) (rest' : List (Addr × Obj)), 0 ≤ s → s ≤ xk.length → (anch = true → s = i) → (∀ q ∈ rest', q.1 ≠ dx) → rest' = (la, W.listOf #[] 0) :: (sa, W.listOf #[] 0) :: rest → @LT.lt Nat _ x sa → @LT.lt Nat _ sa la → (∀ q ∈ rest, @LT.lt Nat _ q.1 sa) →
      Spec w p loose mean mg mb 161 [.ref x, .int s ts, .int 0 tj] (MLed w kt tx tt pt tp t60 x dx 0 td 0 tl sa la rest') d u (MPost w kt tx tt pt tp t60 x dx 0 (MRes rest (C s) (e s)))) :
    Spec w p loose mean mg mb 250 [.ref x, .int i ti, .int 0 tj, .bool anch] (MLed w kt tx tt pt tp t60 x dx dep td lev tl sa la rest) (d + 2) (u + 32) (SRes w kt tx tt pt tp t60 x dx rest xk.length C e i anch) := by
  unfold Spec
  intro dp un gd cn cs a ccd cl outer A₀ base h₀ L m s Q E B F X N T hk hd hu hret
  (try dsimp only [MLed] at N)
  refine wpAny_call ?_
  k_dflt (refine' code_def ?k1 ?k2 ?k3 ?k4 ?k5 ?kA ?kF ?kK ?k6 ?k7 ?k8 ?k9 ?kB ?_ ?c2 ?c3 ?c4 ?c5; (case kA => exact rfl); (case kF => exact rfl); (case kK => assumption); (case k1 => k_asm); (case k2 => k_asm); (case k3 => k_asm); (case k4 => k_asm); (case k5 => k_asm); (case k6 => k_is); (case k7 => k_is); (case k8 => ktr_room); (case k9 => exact BindsTo.of_eq (show bindArgs _ _ = pure [(("self" : Str), _), (("init" : Str), _), (("p" : Str), _), (("is_anchored" : Str), _)] from rfl)); (case c5 => decide); (case kB => exact locs rfl); (case c2 => exact rfl); (case c3 => exact rfl); (case c4 => exact rfl); k_whole; intro g' L' h' FG' F' N' B' X' T'; (try dsimp only); (try k_fold))
  k_steps
  refine Stop.go ?_
  rename Fr _ _ _ _ => F1
  rename News _ _ _ _ => N1
  refine w_while (σ := Int × Tok × Int × Tok × Int × Tok × Addr × Addr) (fun c => MLed w kt tx tt pt tp t60 x dx c.2.2.1 c.2.2.2.1 c.2.2.2.2.1 c.2.2.2.2.2.1 c.2.2.2.2.2.2.1 c.2.2.2.2.2.2.2 rest)
    (fun c => [(("self" : Str), Value.ref x), (("s" : Str), Value.int c.1 c.2.1), (("p" : Str), Value.int 0 tj), (("is_anchored" : Str), Value.bool anch)])
    (fun c => i ≤ c.1 ∧ (anch = true → c.1 = i) ∧ (∀ s', i ≤ s' → s' < c.1 → ¬ C s')) (fun c => (xk.length + 1 - c.1).toNat) (i, ti, dep, td, lev, tl, sa, la) F1 N1 (fun _ h => h) (by kst_all) ⟨Int.le_refl i, fun _ => rfl, fun s' q1 q2 => absurd q2 (Int.not_lt.mpr q1)⟩ ?_
  rintro ⟨a, ta, dep1, td1, lev1, tl1, sa1, la1⟩ u h tk ⟨ha, hb, hc⟩ F2 N2
  dsimp only at ha hb hc
  dsimp only [MLed] at N2
  dsimp only
  k_steps
  · k_dflt (refine' spec_use (H a _ _ _ _ _ _ (by omega) (by assumption) hb (by assumption) (by assumption) (by assumption) (by assumption) (by assumption)) ?k1 ?k2 ?k3 ?k4 ?k5 ?kK ?kd ?ku ?_)
    (case k1 => k_asm); (case k2 => k_asm); (case k3 => k_asm); (case k4 => k_asm); (case k5 => k_asm); (case kK => first | exact rfl | assumption)
    (case kd => ktr_room); (case ku => ktr_units)
    intro r9 n9 h9 tk9 F9 N9 P9
    obtain ⟨td2, lev2, tl2, sa2, la2, rest2, e2, hr2, hs2, hP⟩ := P9
    subst e2
    rcases hP with ⟨hC, t2, rfl⟩ | ⟨hC, rfl⟩
    · (try dsimp only); (try k_fold); (try k_sweep)
      dsimp only [MLed] at N9
      k_steps
      rename (_ ∧ _ ∧ AllLt _ rest2) => q2
      exact hret _ _ _ _ (by k_asm) (cb_drop (by k_asm) (subN3 hs2)) ⟨_, _, _, _, _, _, .inl ⟨a, _, _, _, ha, by omega, hC, hc, hb, rfl, Nat.ne_of_gt q2.2.1, rfl⟩⟩
    · (try dsimp only); (try k_fold); (try k_sweep)
      dsimp only [MLed] at N9
      k_steps
      · exact hret _ _ _ _ (by k_asm) (cb_drop (by k_asm) (subN2 hs2)) ⟨_, _, _, _, _, _, .inr ⟨rfl, fun q => absurd q (by simp_all), fun q _ => by rw [← hb q]; exact hC, rfl⟩⟩
      · exact w_end (_, _, _, _, _, _, _, _) (by k_asm) (by k_asm) (subN2 hs2) (by kst_all) (by exact ⟨by omega, fun q => absurd q (by simp_all), fun s' q1 q2 => (Int.lt_or_eq_of_le (Int.le_of_lt_add_one q2)).elim (hc s' q1) fun q => q ▸ hC⟩) (by dsimp only; omega)
  · exact hret _ _ _ _ (by k_asm) (by k_asm) ⟨_, _, _, _, _, _, .inr ⟨rfl, fun _ s' q1 q2 => hc s' q1 (by omega), fun q1 q2 => absurd q2 (by have := hb q1; omega), rfl⟩⟩

end

theorem FlushC8 : True ∧ True := by
  w_top off
  walk1 <;> trivial
def Cap (xk : List Int) (q c : Nat) : Prop := q + c ≤ xk.length ∧ xk.take c = (xk.drop q).take c
theorem bInts_inj : ∀ {a b : List UInt8}, a.map (fun c => (c.toNat : Int)) = b.map (fun c => (c.toNat : Int)) → a = b
  | [], [], _ => rfl
  | [], _ :: _, h => nomatch h
  | _ :: _, [], h => nomatch h
  | x :: r, y :: t, h => by
    simp only [List.map_cons, List.cons.injEq] at h
    rw [UInt8.toNat_inj.mp (Int.ofNat.inj h.1), bInts_inj h.2]
theorem bytes_beq {b1 b2 : Array UInt8} {l1 l2 : List Int} (h1 : KBw.bInts b1 = l1) (h2 : KBw.bInts b2 = l2) : (b1.toList == b2.toList) = true ↔ l1 = l2 := by
  rw [beq_iff_eq, ← h1, ← h2]
  exact ⟨fun e => by unfold KBw.bInts; rw [e], fun e => bInts_inj e⟩
theorem cap_iff {xk : List Int} {q c : Nat} {b1 b2 : Array UInt8} (h1 : KBw.bInts b1 = (xk.drop (clipAt xk.length 0)).take (clipAt xk.length (0 + (c : Int)) - clipAt xk.length 0))
    (h2 : KBw.bInts b2 = (xk.drop (min q xk.length)).take (clipAt xk.length ((q : Int) + c) - min q xk.length)) (h3 : ¬ (xk.length : Int) - q < c) : (b1.toList == b2.toList) = true ↔ Cap xk q c := by
  have h4 : q + c ≤ xk.length := by omega
  have e0 : clipAt xk.length 0 = 0 := (clipAt_nat xk.length 0).trans (Nat.zero_min _)
  have e1 : clipAt xk.length (0 + (c : Int)) = c := by
    rw [Int.zero_add]; exact (clipAt_nat xk.length c).trans (by omega)
  have e2 : clipAt xk.length ((q : Int) + c) = q + c := by
    rw [← Int.natCast_add]; exact (clipAt_nat xk.length (q + c)).trans (by omega)
  rw [bytes_beq h1 h2, e0, e1, e2, show min q xk.length = q by omega, List.drop_zero, Nat.sub_zero, Nat.add_sub_cancel_left]
  exact ⟨fun e => ⟨h4, e⟩, fun e => e.2⟩
section
variable {w : World} {p : Program} {loose : List Str} {mean : ExcName → Option Value} {mg mb : Str → Option Value} {kt : Nat → Tok} {tx pt : Array UInt8} {tt tp t60 td tl : Tok} {dep lev : Int} {sa la x dx : Addr} {news rest : List (Addr × Obj)}
local macro_rules | `(tactic| walk_at "ite") => `(tactic| (k_here; k_openite; k_spoken; first
  | (refine ite_pos (by (try simp only [beq_iff_eq, bne_iff_ne, ne_eq, decide_eq_true_eq, Bool.not_eq_true', decide_eq_false_iff_not, beq_eq_false_iff_ne, Bool.and_eq_true, Bool.or_eq_true]); first | assumption | omega) ?_; walk_say "MINE pos")
  | (refine ite_neg (by (try simp only [beq_iff_eq, bne_iff_ne, ne_eq, decide_eq_true_eq, Bool.not_eq_true', decide_eq_false_iff_not, beq_eq_false_iff_ne, Bool.and_eq_true, Bool.or_eq_true]); first | assumption | omega) ?_; walk_say "MINE neg")))
local macro_rules | `(tactic| k_mem) => `(tactic| first | exact List.Mem.head _ | ktr_member | (refine' List.mem_cons_of_mem _ ?_; k_mem))
local macro_rules | `(tactic| walk_at "subscriptTail") => `(tactic| (k_here; (with_reducible show wpAny _ _ (subscriptTail _ _ (Value.ref _) (Value.int _ _)) _ _ _); (with_unfolding_all refine' item_litK ?k1 ?k2 ?k3 ?k4 ?_ ?k6; (case k1 => exact News.isList (by k_asm) (by k_mem)); (case k2 => decide); (case k3 => decide); (case k4 => rfl); (case k6 => with_unfolding_all rfl); k_whole)))

set_option maxHeartbeats 8000000 in
theorem digit_ok {i : Int} {ti : Tok} (hi : i = 49) :
    Spec w p loose mean mg mb 62 [.int i ti] news 1 8 (fun news' r => news = news' ∧ r = .bool true) := by
  subst hi
  unfold Spec
  intro dp un gd cn cs a ccd cl outer A₀ base h₀ L m s Q E B F X N T hk hd hu hret
  (try dsimp only [MLed] at N)
  refine wpAny_call ?_
  k_dflt (refine' code_def ?k1 ?k2 ?k3 ?k4 ?k5 ?kA ?kF ?kK ?k6 ?k7 ?k8 ?k9 ?kB ?_ ?c2 ?c3 ?c4 ?c5; (case kA => exact rfl); (case kF => exact rfl); (case kK => assumption); (case k1 => k_asm); (case k2 => k_asm); (case k3 => k_asm); (case k4 => k_asm); (case k5 => k_asm); (case k6 => k_is); (case k7 => k_is); (case k8 => ktr_room); (case k9 => exact BindsTo.of_eq (show bindArgs _ _ = pure [(("c" : Str), _)] from rfl)); (case c5 => decide); (case kB => exact locs rfl); (case c2 => exact rfl); (case c3 => exact rfl); (case c4 => exact rfl); k_whole; intro g' L' h' FG' F' N' B' X' T'; (try dsimp only); (try k_fold))
  k_steps
  all_goals exact hret _ _ _ _ (by k_asm) (by k_asm) ⟨rfl, rfl⟩

set_option maxHeartbeats 8000000 in
theorem match_capture_ok {xk : List Int} {q c : Nat} {i j : Int} {ti tj tc t0 : Tok} {nl ns : Nat} (ht : KBw.bInts tx = xk) (htz : xk.length ≤ 1000) (hi : i = q) (hj : j = 49) (hlev : lev = 1)
    (m1 : (x, instObj 253 dx) ∈ news) (m2 : (dx, dictOf (mEs w.params kt tx tt pt tp t60 dep td lev tl sa la) 8) ∈ news) (m3 : (la, W.listOf #[Value.int c tc] nl) ∈ news) (m4 : (sa, W.listOf #[Value.int 0 t0] ns) ∈ news) :
    Spec w p loose mean mg mb 231 [.ref x, .int i ti, .int j tj] news 2 16 (fun news' r => news = news' ∧ ((Cap xk q c ∧ ∃ t, r = .int ((q : Int) + c) t) ∨ (¬ Cap xk q c ∧ r = .none))) := by
  subst hi hj hlev
  have hc0 : (0 : Int) ≤ c := Int.natCast_nonneg c
  unfold Spec
  intro dp un gd cn cs a ccd cl outer A₀ base h₀ L m s Q E B F X N T hk hd hu hret
  (try dsimp only [MLed] at N)
  refine wpAny_call ?_
  k_dflt (refine' code_def ?k1 ?k2 ?k3 ?k4 ?k5 ?kA ?kF ?kK ?k6 ?k7 ?k8 ?k9 ?kB ?_ ?c2 ?c3 ?c4 ?c5; (case kA => exact rfl); (case kF => exact rfl); (case kK => assumption); (case k1 => k_asm); (case k2 => k_asm); (case k3 => k_asm); (case k4 => k_asm); (case k5 => k_asm); (case k6 => k_is); (case k7 => k_is); (case k8 => ktr_room); (case k9 => exact BindsTo.of_eq (show bindArgs _ _ = pure [(("self" : Str), _), (("s" : Str), _), (("digit" : Str), _)] from rfl)); (case c5 => decide); (case kB => exact locs rfl); (case c2 => exact rfl); (case c3 => exact rfl); (case c4 => exact rfl); k_whole; intro g' L' h' FG' F' N' B' X' T'; (try dsimp only); (try k_fold))
  k_steps
  · exact hret _ _ _ _ (by k_asm) (by k_asm) ⟨rfl, .inr ⟨fun z => by have := z.1; omega, rfl⟩⟩
  · exact hret _ _ _ _ (by k_asm) (by k_asm) ⟨rfl, .inl ⟨(cap_iff (by assumption) (by assumption) (by assumption)).mp (by assumption), _, rfl⟩⟩
  · exact hret _ _ _ _ (by k_asm) (by k_asm) ⟨rfl, .inr ⟨fun z => by have := (cap_iff (by assumption) (by assumption) (by assumption)).mpr z; simp_all, rfl⟩⟩

end

theorem FlushC9 : True ∧ True := by
  w_top off
  walk1 <;> trivial
section
variable {w : World} {p : Program} {loose : List Str} {mean : ExcName → Option Value} {mg mb : Str → Option Value} {kt : Nat → Tok} {tx pt : Array UInt8} {tt tp t60 td tl : Tok} {dep lev : Int} {sa la x dx : Addr} {news rest : List (Addr × Obj)}
local macro_rules | `(tactic| walk_at "ite") => `(tactic| (k_here; k_openite; k_spoken; first
  | (refine ite_pos (by (try simp only [beq_iff_eq, bne_iff_ne, ne_eq, decide_eq_true_eq, Bool.not_eq_true', decide_eq_false_iff_not, beq_eq_false_iff_ne, Bool.and_eq_true, Bool.or_eq_true]); first | assumption | omega) ?_; walk_say "MINE pos")
  | (refine ite_neg (by (try simp only [beq_iff_eq, bne_iff_ne, ne_eq, decide_eq_true_eq, Bool.not_eq_true', decide_eq_false_iff_not, beq_eq_false_iff_ne, Bool.and_eq_true, Bool.or_eq_true]); first | assumption | omega) ?_; walk_say "MINE neg")))
local macro_rules | `(tactic| k_mem) => `(tactic| first | exact List.Mem.head _ | ktr_member | (refine' List.mem_cons_of_mem _ ?_; k_mem))
local macro_rules | `(tactic| walk_at "subscriptTail") => `(tactic| (k_here; (with_reducible show wpAny _ _ (subscriptTail _ _ (Value.ref _) (Value.int _ _)) _ _ _); (with_unfolding_all refine' item_litK ?k1 ?k2 ?k3 ?k4 ?_ ?k6; (case k1 => exact News.isList (by k_asm) (by k_mem)); (case k2 => decide); (case k3 => decide); (case k4 => rfl); (case k6 => with_unfolding_all rfl); k_whole)))
local macro_rules | `(tactic| walk_at "call ref") => `(tactic| (k_here; k_dflt (
  refine' spec_use (match_capture_ok ?ht ?htz ?hi ?hj ?hlev ?m1 ?m2 ?m3 ?m4) ?k1 ?k2 ?k3 ?k4 ?k5 ?kK ?kd ?ku ?_
  (case k1 => k_asm); (case k2 => k_asm); (case k3 => k_asm); (case k4 => k_asm); (case k5 => k_asm); (case kK => first | exact rfl | assumption)
  (case m1 => k_mem); (case m2 => k_mem); (case m3 => k_mem); (case m4 => k_mem); (case kd => ktr_room); (case ku => ktr_units)
  (case ht => assumption); (case htz => assumption); (case hi => first | assumption | rfl); (case hj => first | rfl | assumption | omega); (case hlev => first | rfl | assumption)
  intro r9 n9 h9 tk9 F9 N9 P9
  obtain ⟨e9, P9⟩ := P9
  subst e9
  (try dsimp only); (try k_fold); (try k_sweep))))

set_option maxHeartbeats 8000000 in
theorem match_special_ok {xk : List Int} {q c : Nat} {i j l : Int} {ti tj tc t0 tz : Tok} {nl ns : Nat} (hl : l = 49) (ht : KBw.bInts tx = xk) (htz : xk.length ≤ 1000) (hi : i = q) (hlev : lev = 1)
    (m1 : (x, instObj 253 dx) ∈ news) (m2 : (dx, dictOf (mEs w.params kt tx tt pt tp t60 dep td lev tl sa la) 8) ∈ news) (m3 : (la, W.listOf #[Value.int c tc] nl) ∈ news) (m4 : (sa, W.listOf #[Value.int 0 t0] ns) ∈ news) :
    Spec w p loose mean mg mb 175 [.ref x, .int i ti, .int j tj, .int l tz] news 3 32 (fun news' r => ∃ a rv t, news' = (a, tupObj #[rv, .int (j + 2) t]) :: news ∧ r = .ref a ∧ ((Cap xk q c ∧ ∃ t, rv = .int ((q : Int) + c) t) ∨ (¬ Cap xk q c ∧ rv = .none))) := by
  subst hl
  unfold Spec
  intro dp un gd cn cs a ccd cl outer A₀ base h₀ L m s Q E B F X N T hk hd hu hret
  (try dsimp only [MLed] at N)
  refine wpAny_call ?_
  k_dflt (refine' code_def ?k1 ?k2 ?k3 ?k4 ?k5 ?kA ?kF ?kK ?k6 ?k7 ?k8 ?k9 ?kB ?_ ?c2 ?c3 ?c4 ?c5; (case kA => exact rfl); (case kF => exact rfl); (case kK => assumption); (case k1 => k_asm); (case k2 => k_asm); (case k3 => k_asm); (case k4 => k_asm); (case k5 => k_asm); (case k6 => k_is); (case k7 => k_is); (case k8 => ktr_room); (case k9 => exact BindsTo.of_eq (show bindArgs _ _ = pure [(("self" : Str), _), (("s" : Str), _), (("p" : Str), _), (("letter" : Str), _)] from rfl)); (case c5 => decide); (case kB => exact locs rfl); (case c2 => exact rfl); (case c3 => exact rfl); (case c4 => exact rfl); k_whole; intro g' L' h' FG' F' N' B' X' T'; (try dsimp only); (try k_fold))
  k_steps
  all_goals exact hret _ _ _ _ (by k_asm) (by k_asm) ⟨_, _, _, rfl, rfl, by assumption⟩

set_option maxHeartbeats 8000000 in
theorem to_close_ok {tu : Tok} {nl : Nat} (hlev : lev = 1) (m1 : (x, instObj 253 dx) ∈ news) (m2 : (dx, dictOf (mEs w.params kt tx tt pt tp t60 dep td lev tl sa la) 8) ∈ news) (m3 : (la, W.listOf #[Value.int (-1) tu] nl) ∈ news) :
    Spec w p loose mean mg mb 224 [.ref x] news 1 8 (fun news' r => news = news' ∧ ∃ t, r = .int 0 t) := by
  subst hlev
  unfold Spec
  intro dp un gd cn cs a ccd cl outer A₀ base h₀ L m s Q E B F X N T hk hd hu hret
  (try dsimp only [MLed] at N)
  refine wpAny_call ?_
  k_dflt (refine' code_def ?k1 ?k2 ?k3 ?k4 ?k5 ?kA ?kF ?kK ?k6 ?k7 ?k8 ?k9 ?kB ?_ ?c2 ?c3 ?c4 ?c5; (case kA => exact rfl); (case kF => exact rfl); (case kK => assumption); (case k1 => k_asm); (case k2 => k_asm); (case k3 => k_asm); (case k4 => k_asm); (case k5 => k_asm); (case k6 => k_is); (case k7 => k_is); (case k8 => ktr_room); (case k9 => exact BindsTo.of_eq (show bindArgs _ _ = pure [(("self" : Str), _)] from rfl)); (case c5 => decide); (case kB => exact locs rfl); (case c2 => exact rfl); (case c3 => exact rfl); (case c4 => exact rfl); k_whole; intro g' L' h' FG' F' N' B' X' T'; (try dsimp only); (try k_fold))
  k_steps
  all_goals exact hret _ _ _ _ (by k_asm) (by k_asm) ⟨rfl, _, rfl⟩

end

theorem FlushC10 : True ∧ True := by
  w_top off
  walk1 <;> trivial

theorem gives_in_int {b : Array UInt8} {t u : Tok} {i : Int} (h0 : 0 ≤ i) (h1 : i < 256) :
    Gives (Builtin.«bytes.__contains__» ⟨[.bytes b t, .int i u], []⟩) (.val (.bool (b.contains i.toNat.toUInt8))) := by
  refine .of_wp fun M A E s Q hq => ?_
  show wpAny M A (Builtin.Bytes.containsIn "bytes.__contains__" (.bytes b t) (.int i u) >>= fun r => _) _ E s
  unfold Builtin.Bytes.containsIn
  refine wpAny_bind ?_
  refine wpAny_bind (wpAny_of_eq (a := Except.ok i) rfl ?_)
  refine wpAny_bind (wpAny_of_eq KBy.buffer_eq ?_)
  dsimp only
  rw [if_neg (by simp; omega)]
  exact wpAny_pure (wpAny_pure ⟨_, rfl, hq⟩)
theorem in_bytes {prog : Program} {w : World} {A : Around} {E : Value → Shared → Prop} {s : Shared} {b : Array UInt8} {t u : Tok} {i : Int} {v : Bool} {Q : Value → Shared → Prop} (h0 : 0 ≤ i) (h1 : i < 256) (hv : b.contains i.toNat.toUInt8 = v)
    (h : Q (.bool v) s) : wpAny (model prog w) A (compareOp .In (.int i u) (.bytes b t)) Q E s :=
  in_gives (typeIs_bytes s b t) FB.slot_bytes_contains FB.entry_bytes_contains (FB.args_bytes_contains_2 _ _) (gives_in_int h0 h1) (by rw [hv]; exact h)
theorem bf49 {i : Int} (h : i = 49) : (#[98, 102] : Array UInt8).contains i.toNat.toUInt8 = false := by
  subst h; decide +kernel

theorem FlushC11 : True ∧ True := by
  w_top off
  walk1 <;> trivial
def TailA (xk : List Int) (q : Nat) : Prop := q + q = xk.length ∧ xk.take q = xk.drop q
theorem take_drop_all {xk : List Int} {q c : Nat} (h : q + c = xk.length) : (xk.drop q).take c = xk.drop q := by
  rw [List.take_of_length_le (by rw [List.length_drop]; omega)]
theorem TailA.cap {xk : List Int} {q : Nat} (h : TailA xk q) : Cap xk q q := ⟨Nat.le_of_eq h.1, by rw [take_drop_all h.1]; exact h.2⟩
theorem Cap.tail {xk : List Int} {q : Nat} (h : Cap xk q q) (e : q + q = xk.length) : TailA xk q := ⟨e, by have := h.2; rwa [take_drop_all e] at this⟩
def TailB (xk : List Int) (q : Nat) : Prop := q + q + q = xk.length ∧ xk.take q = (xk.drop q).take q ∧ xk.take q = xk.drop (q + q)
theorem TailB.cap {xk : List Int} {q : Nat} (h : TailB xk q) : Cap xk q q := ⟨by have := h.1; omega, h.2.1⟩
theorem TailB.cap2 {xk : List Int} {q : Nat} (h : TailB xk q) : Cap xk (q + q) q := ⟨Nat.le_of_eq h.1, by rw [take_drop_all h.1]; exact h.2.2⟩
theorem Cap.tailB {xk : List Int} {q : Nat} (h : Cap xk q q) (h2 : Cap xk (q + q) q) (e : q + q + q = xk.length) : TailB xk q := ⟨e, h.2, by have := h2.2; rwa [take_drop_all e] at this⟩
section
variable {w : World} {p : Program} {loose : List Str} {mean : ExcName → Option Value} {mg mb : Str → Option Value} {kt : Nat → Tok} {tx pt : Array UInt8} {tt tp t60 td tl : Tok} {dep lev : Int} {sa la x dx : Addr} {news rest : List (Addr × Obj)}
local macro_rules | `(tactic| walk_at "ite") => `(tactic| (k_here; k_openite; k_spoken; first
  | (refine ite_pos (by (try simp only [beq_iff_eq, bne_iff_ne, ne_eq, decide_eq_true_eq, Bool.not_eq_true', decide_eq_false_iff_not, beq_eq_false_iff_ne, Bool.and_eq_true, Bool.or_eq_true]); first | assumption | omega) ?_; walk_say "MINE pos")
  | (refine ite_neg (by (try simp only [beq_iff_eq, bne_iff_ne, ne_eq, decide_eq_true_eq, Bool.not_eq_true', decide_eq_false_iff_not, beq_eq_false_iff_ne, Bool.and_eq_true, Bool.or_eq_true]); first | assumption | omega) ?_; walk_say "MINE neg")))
local macro_rules | `(tactic| k_mem) => `(tactic| first | exact List.Mem.head _ | ktr_member | (refine' List.mem_cons_of_mem _ ?_; k_mem))
local macro_rules | `(tactic| walk_at "subscriptTail") => `(tactic| (k_here; (with_reducible show wpAny _ _ (subscriptTail _ _ (Value.ref _) (Value.int _ _)) _ _ _); (with_unfolding_all refine' item_litK ?k1 ?k2 ?k3 ?k4 ?_ ?k6; (case k1 => exact News.isList (by k_asm) (by k_mem)); (case k2 => decide); (case k3 => decide); (case k4 => rfl); (case k6 => with_unfolding_all rfl); k_whole)))
local macro_rules | `(tactic| walk_at "WPost") => `(tactic| (first | with_reducible refine wpost_ret ?_ | with_reducible refine wpost_next ?_ | with_reducible refine wpost_cont ?_ | with_reducible refine wpost_brk ?_ | dsimp only [WPost]))
local macro_rules | `(tactic| walk_at "exec While") => `(tactic| (k_here; refine stop_ ?_))
local macro_rules | `(tactic| walk_at "exec While Compare") => `(tactic| (k_here; refine stop_ ?_))
local macro_rules | `(tactic| walk_at "exec While Compare cons nil") => `(tactic| (k_here; refine stop_ ?_))
local macro_rules | `(tactic| walk_at "call ref") => `(tactic| (k_here; k_dflt (
  refine' spec_use (count_ok ?m1 ?m2) ?k1 ?k2 ?k3 ?k4 ?k5 ?kK ?kd ?ku ?_
  (case k1 => k_asm); (case k2 => k_asm); (case k3 => k_asm); (case k4 => k_asm); (case k5 => k_asm); (case kK => first | exact rfl | assumption)
  (case m1 => k_mem); (case m2 => k_mem); (case kd => ktr_room); (case ku => ktr_units)
  intro r9 n9 h9 tk9 F9 N9 P9
  obtain ⟨e9, e9'⟩ := P9
  subst e9 e9'
  (try dsimp only); (try k_fold); (try k_sweep))))
local macro_rules | `(tactic| walk_at "call ref") => `(tactic| (k_here; k_dflt (
  refine' spec_use (at_ok ?hp ?hz ?hi ?m1 ?m2) ?k1 ?k2 ?k3 ?k4 ?k5 ?kK ?kd ?ku ?_
  (case k1 => k_asm); (case k2 => k_asm); (case k3 => k_asm); (case k4 => k_asm); (case k5 => k_asm); (case kK => first | exact rfl | assumption)
  (case m1 => k_mem); (case m2 => k_mem); (case kd => ktr_room); (case ku => ktr_units)
  (case hp => assumption); (case hz => assumption); (case hi => first | assumption | omega)
  intro r9 n9 h9 tk9 F9 N9 P9
  obtain ⟨e9, t9, e9'⟩ := P9
  subst e9 e9'
  (try dsimp only); (try k_fold); (try k_sweep))))
local macro_rules | `(tactic| walk_at "call ref") => `(tactic| (k_here; k_dflt (
  refine' spec_use (digit_ok ?hi) ?k1 ?k2 ?k3 ?k4 ?k5 ?kK ?kd ?ku ?_
  (case k1 => k_asm); (case k2 => k_asm); (case k3 => k_asm); (case k4 => k_asm); (case k5 => k_asm); (case kK => first | exact rfl | assumption)
  (case hi => first | rfl | assumption | omega); (case kd => ktr_room); (case ku => ktr_units)
  intro r9 n9 h9 tk9 F9 N9 P9
  obtain ⟨e9, e9'⟩ := P9
  subst e9 e9'
  (try dsimp only); (try k_fold); (try k_sweep))))
local macro_rules | `(tactic| walk_at "call ref") => `(tactic| (k_here; k_dflt (
  refine' spec_use (match_special_ok ?hl ?ht ?htz ?hi ?hlev ?m1 ?m2 ?m3 ?m4) ?k1 ?k2 ?k3 ?k4 ?k5 ?kK ?kd ?ku ?_
  (case k1 => k_asm); (case k2 => k_asm); (case k3 => k_asm); (case k4 => k_asm); (case k5 => k_asm); (case kK => first | exact rfl | assumption)
  (case m1 => k_mem); (case m2 => k_mem); (case m3 => k_mem); (case m4 => k_mem); (case kd => ktr_room); (case ku => ktr_units)
  (case ht => assumption); (case htz => assumption); (case hi => first | assumption | rfl | omega); (case hl => first | rfl | assumption | omega); (case hlev => first | rfl | assumption)
  intro r9 n9 h9 tk9 F9 N9 P9
  obtain ⟨a9, rv9, t9, e9, e9', (⟨hc9, t9', e9''⟩ | ⟨hc9, e9''⟩)⟩ := P9
  all_goals (subst e9 e9' e9''; (try dsimp only); (try k_fold); (try k_sweep)))))
local macro_rules | `(tactic| walk_at "compareOp In int bytes") => `(tactic| (k_here; refine in_bytes (by first | assumption | omega) (by first | assumption | omega) (bf49 (by first | assumption | omega)) ?_))

set_option maxHeartbeats 8000000 in
theorem mh4A {pk xk : List Int} {q : Nat} {i j : Int} {ti tj tc t0 : Tok} {nl ns : Nat} (hp : KBw.bInts pt = pk) (hz : pk.length = 7) (ht : KBw.bInts tx = xk) (htz : xk.length ≤ 1000)
    (p4 : pk.getD (4 : Int).toNat 0 = 37) (p5 : pk.getD ((4 : Int) + 1).toNat 0 = 49) (p6 : pk.getD (6 : Int).toNat 0 = 36)
    (hi : i = q) (hj : j = 4) (hlev : lev = 1) (m1 : (x, instObj 253 dx) ∈ news) (m2 : (dx, dictOf (mEs w.params kt tx tt pt tp t60 dep td lev tl sa la) 8) ∈ news) (m3 : (la, W.listOf #[Value.int q tc] nl) ∈ news) (m4 : (sa, W.listOf #[Value.int 0 t0] ns) ∈ news) :
    Spec w p loose mean mg mb 168 [.ref x, .int i ti, .int j tj] news 6 64 (fun news' r => news = news' ∧ ((TailA xk q ∧ ∃ t, r = .int xk.length t) ∨ (¬ TailA xk q ∧ r = .none))) := by
  have hz2 : pk.length ≤ 1000 := by omega
  unfold Spec
  intro dp un gd cn cs a ccd cl outer A₀ base h₀ L m s Q E B F X N T hk hd hu hret
  (try dsimp only [MLed] at N)
  refine wpAny_call ?_
  k_dflt (refine' code_def ?k1 ?k2 ?k3 ?k4 ?k5 ?kA ?kF ?kK ?k6 ?k7 ?k8 ?k9 ?kB ?_ ?c2 ?c3 ?c4 ?c5; (case kA => exact rfl); (case kF => exact rfl); (case kK => assumption); (case k1 => k_asm); (case k2 => k_asm); (case k3 => k_asm); (case k4 => k_asm); (case k5 => k_asm); (case k6 => k_is); (case k7 => k_is); (case k8 => ktr_room); (case k9 => exact BindsTo.of_eq (show bindArgs _ _ = pure [(("self" : Str), _), (("s" : Str), _), (("p" : Str), _)] from rfl)); (case c5 => decide); (case kB => exact locs rfl); (case c2 => exact rfl); (case c3 => exact rfl); (case c4 => exact rfl); k_whole; intro g' L' h' FG' F' N' B' X' T'; (try dsimp only); (try k_fold))
  k_steps
  refine Stop.go ?_
  rename Fr _ _ _ _ => F1
  rename News _ _ _ _ => N1
  refine w_while (σ := Int × Int × Tok × Tok) (fun _ => news) (fun c => [(("self" : Str), Value.ref x), (("s" : Str), Value.int c.1 c.2.2.1), (("p" : Str), Value.int c.2.1 c.2.2.2)])
    (fun c => (c.1 = q ∧ c.2.1 = 4) ∨ (c.1 = (q : Int) + q ∧ c.2.1 = 6 ∧ Cap xk q q)) (fun c => (8 - c.2.1).toNat) (i, j, ti, tj) F1 N1 (fun _ h => h) (by kst_all) (.inl ⟨hi, hj⟩) ?_
  rintro ⟨a, b, ta, tb⟩ u h tk hP F2 N2
  dsimp only at hP
  dsimp only
  rcases hP with ⟨ha, hb⟩ | ⟨ha, hb, hc⟩
  · subst hb
    k_steps
    · exact w_end (_, _, _, _) (by k_asm) (by k_asm) (fun _ h => .tail _ (.tail _ h)) (by kst_all) (by exact .inr ⟨rfl, rfl, by assumption⟩) (by dsimp only; decide)
    · exact hret _ _ _ _ (by k_asm) (dropN (dropN (by k_asm))) ⟨rfl, .inr ⟨fun z => absurd z.cap (by assumption), rfl⟩⟩
  · subst hb
    k_steps
    · exact hret _ _ _ _ (by k_asm) (dropN (by k_asm)) ⟨rfl, .inl ⟨hc.tail (by omega), _, congrArg (Value.int · _) (by assumption)⟩⟩
    · exact hret _ _ _ _ (by k_asm) (dropN (by k_asm)) ⟨rfl, .inr ⟨fun z => by have := z.1; omega, rfl⟩⟩

set_option maxHeartbeats 8000000 in
theorem mh4B {pk xk : List Int} {q : Nat} {i j : Int} {ti tj tc t0 : Tok} {nl ns : Nat} (hp : KBw.bInts pt = pk) (hz : pk.length = 9) (ht : KBw.bInts tx = xk) (htz : xk.length ≤ 1000)
    (p4 : pk.getD (4 : Int).toNat 0 = 37) (p5 : pk.getD ((4 : Int) + 1).toNat 0 = 49) (p6 : pk.getD (6 : Int).toNat 0 = 37) (p7 : pk.getD ((6 : Int) + 1).toNat 0 = 49) (p8 : pk.getD (8 : Int).toNat 0 = 36)
    (hi : i = q) (hj : j = 4) (hlev : lev = 1) (m1 : (x, instObj 253 dx) ∈ news) (m2 : (dx, dictOf (mEs w.params kt tx tt pt tp t60 dep td lev tl sa la) 8) ∈ news) (m3 : (la, W.listOf #[Value.int q tc] nl) ∈ news) (m4 : (sa, W.listOf #[Value.int 0 t0] ns) ∈ news) :
    Spec w p loose mean mg mb 168 [.ref x, .int i ti, .int j tj] news 6 64 (fun news' r => news = news' ∧ ((TailB xk q ∧ ∃ t, r = .int xk.length t) ∨ (¬ TailB xk q ∧ r = .none))) := by
  have hz2 : pk.length ≤ 1000 := by omega
  unfold Spec
  intro dp un gd cn cs a ccd cl outer A₀ base h₀ L m s Q E B F X N T hk hd hu hret
  (try dsimp only [MLed] at N)
  refine wpAny_call ?_
  k_dflt (refine' code_def ?k1 ?k2 ?k3 ?k4 ?k5 ?kA ?kF ?kK ?k6 ?k7 ?k8 ?k9 ?kB ?_ ?c2 ?c3 ?c4 ?c5; (case kA => exact rfl); (case kF => exact rfl); (case kK => assumption); (case k1 => k_asm); (case k2 => k_asm); (case k3 => k_asm); (case k4 => k_asm); (case k5 => k_asm); (case k6 => k_is); (case k7 => k_is); (case k8 => ktr_room); (case k9 => exact BindsTo.of_eq (show bindArgs _ _ = pure [(("self" : Str), _), (("s" : Str), _), (("p" : Str), _)] from rfl)); (case c5 => decide); (case kB => exact locs rfl); (case c2 => exact rfl); (case c3 => exact rfl); (case c4 => exact rfl); k_whole; intro g' L' h' FG' F' N' B' X' T'; (try dsimp only); (try k_fold))
  k_steps
  refine Stop.go ?_
  rename Fr _ _ _ _ => F1
  rename News _ _ _ _ => N1
  refine w_while (σ := Int × Int × Tok × Tok) (fun _ => news) (fun c => [(("self" : Str), Value.ref x), (("s" : Str), Value.int c.1 c.2.2.1), (("p" : Str), Value.int c.2.1 c.2.2.2)])
    (fun c => (c.1 = q ∧ c.2.1 = 4) ∨ (c.1 = ((q + q : Nat) : Int) ∧ c.2.1 = 6 ∧ Cap xk q q) ∨ (c.1 = ((q + q + q : Nat) : Int) ∧ c.2.1 = 8 ∧ Cap xk q q ∧ Cap xk (q + q) q)) (fun c => (10 - c.2.1).toNat) (i, j, ti, tj) F1 N1 (fun _ h => h) (by kst_all) (.inl ⟨hi, hj⟩) ?_
  rintro ⟨a, b, ta, tb⟩ u h tk hP F2 N2
  dsimp only at hP
  dsimp only
  rcases hP with ⟨ha, hb⟩ | ⟨ha, hb, hc⟩ | ⟨ha, hb, hc, hc2⟩
  · subst hb
    k_steps
    · exact w_end (_, _, _, _) (by k_asm) (by k_asm) (fun _ h => .tail _ (.tail _ h)) (by kst_all) (by exact .inr (.inl ⟨by omega, rfl, by assumption⟩)) (by dsimp only; decide)
    · exact hret _ _ _ _ (by k_asm) (dropN (dropN (by k_asm))) ⟨rfl, .inr ⟨fun z => absurd z.cap (by assumption), rfl⟩⟩
  · subst hb
    k_steps
    · exact w_end (_, _, _, _) (by k_asm) (by k_asm) (fun _ h => .tail _ (.tail _ h)) (by kst_all) (by exact .inr (.inr ⟨by omega, rfl, hc, by assumption⟩)) (by dsimp only; decide)
    · exact hret _ _ _ _ (by k_asm) (dropN (dropN (by k_asm))) ⟨rfl, .inr ⟨fun z => absurd z.cap2 (by assumption), rfl⟩⟩
  · subst hb
    k_steps
    · exact hret _ _ _ _ (by k_asm) (dropN (by k_asm)) ⟨rfl, .inl ⟨hc.tailB hc2 (by omega), _, congrArg (Value.int · _) (by assumption)⟩⟩
    · exact hret _ _ _ _ (by k_asm) (dropN (by k_asm)) ⟨rfl, .inr ⟨fun z => by have := z.1; omega, rfl⟩⟩

end

theorem FlushC12 : True ∧ True := by
  w_top off
  walk1 <;> trivial
theorem Spec.mono {w : World} {p : Program} {loose : List Str} {mean : ExcName → Option Value} {mg mb : Str → Option Value} {f : Addr} {vs : List Value} {news : List (Addr × Obj)} {d d' u u' : Nat} {P P' : List (Addr × Obj) → Value → Prop}
    (C : Spec w p loose mean mg mb f vs news d u P) (hp : ∀ n r, P n r → P' n r) (hd : d ≤ d') (hu : u ≤ u') : Spec w p loose mean mg mb f vs news d' u' P' := by
  intro dp un gd cn cs a ccd cl outer A₀ base h₀ L m s Q E B F X N T hk hd' hu' hret
  exact spec_use C B F X N T hk (by omega) (by omega) fun r n h tk F' N' hP => hret r n h tk F' N' (hp n r hP)
abbrev CapL (sa la : Addr) (v : Int) (tv t0 : Tok) (nl ns : Nat) (rest0 : List (Addr × Obj)) : List (Addr × Obj) := (la, W.listOf #[Value.int v tv] nl) :: (sa, W.listOf #[Value.int 0 t0] ns) :: rest0
abbrev CapR (sa la : Addr) (t0 : Tok) (nl ns : Nat) (rest0 : List (Addr × Obj)) (C : Prop) (e w0 : Int) : Int → Addr → Addr → List (Addr × Obj) → Value → Prop :=
  fun lev' sa' la' rest' r => lev' = 1 ∧ sa' = sa ∧ la' = la ∧ ∃ v tv, rest' = CapL sa la v tv t0 nl ns rest0 ∧ ((C ∧ ∃ t, r = .int e t) ∨ (¬ C ∧ r = .none ∧ v = w0))
theorem cap_ne {dx sa la : Addr} {v : Int} {tv t0 : Tok} {nl ns : Nat} {rest0 : List (Addr × Obj)} (h1 : la ≠ dx) (h2 : sa ≠ dx) (h3 : ∀ q ∈ rest0, q.1 ≠ dx) : ∀ q ∈ CapL sa la v tv t0 nl ns rest0, q.1 ≠ dx := by
  intro q hq
  rcases List.mem_cons.mp hq with rfl | hq
  · exact h1
  · rcases List.mem_cons.mp hq with rfl | hq
    · exact h2
    · exact h3 q hq
section
variable {w : World} {p : Program} {loose : List Str} {mean : ExcName → Option Value} {mg mb : Str → Option Value} {kt : Nat → Tok} {tx pt : Array UInt8} {tt tp t60 td tl : Tok} {dep lev : Int} {sa la x dx : Addr} {news rest : List (Addr × Obj)}
local macro_rules | `(tactic| walk_at "ite") => `(tactic| (k_here; k_openite; k_spoken; first
  | (refine ite_pos (by (try simp only [beq_iff_eq, bne_iff_ne, ne_eq, decide_eq_true_eq, Bool.not_eq_true', decide_eq_false_iff_not, beq_eq_false_iff_ne, Bool.and_eq_true, Bool.or_eq_true]); first | assumption | omega) ?_; walk_say "MINE pos")
  | (refine ite_neg (by (try simp only [beq_iff_eq, bne_iff_ne, ne_eq, decide_eq_true_eq, Bool.not_eq_true', decide_eq_false_iff_not, beq_eq_false_iff_ne, Bool.and_eq_true, Bool.or_eq_true]); first | assumption | omega) ?_; walk_say "MINE neg")))
local macro_rules | `(tactic| k_mem) => `(tactic| first | exact List.Mem.head _ | ktr_member | (refine' List.mem_cons_of_mem _ ?_; k_mem))
local macro_rules | `(tactic| walk_at "subscriptTail") => `(tactic| (k_here; (with_reducible show wpAny _ _ (subscriptTail _ _ (Value.ref _) (Value.int _ _)) _ _ _); (with_unfolding_all refine' item_litK ?k1 ?k2 ?k3 ?k4 ?_ ?k6; (case k1 => exact News.isList (by k_asm) (by k_mem)); (case k2 => decide); (case k3 => decide); (case k4 => rfl); (case k6 => with_unfolding_all rfl); k_whole)))
local macro_rules | `(tactic| walk_at "call ref") => `(tactic| (k_here; k_dflt (
  refine' spec_use (to_close_ok ?hlev ?m1 ?m2 ?m3) ?k1 ?k2 ?k3 ?k4 ?k5 ?kK ?kd ?ku ?_
  (case k1 => k_asm); (case k2 => k_asm); (case k3 => k_asm); (case k4 => k_asm); (case k5 => k_asm); (case kK => first | exact rfl | assumption)
  (case m1 => k_mem); (case m2 => k_mem); (case m3 => k_mem); (case kd => ktr_room); (case ku => ktr_units)
  (case hlev => first | rfl | assumption)
  intro r9 n9 h9 tk9 F9 N9 P9
  obtain ⟨e9, t9, e9'⟩ := P9
  subst e9 e9'
  (try dsimp only); (try k_fold); (try k_sweep))))
local macro_rules | `(tactic| k_all) => `(tactic| assumption)

set_option maxHeartbeats 8000000 in
theorem end_capture_ok {C : Prop} {e : Int} {q : Nat} {i j : Int} {ti tj tc t0 : Tok} {nl ns d u : Nat} {rest0 : List (Addr × Obj)} (hi : i = q) (hx : @LT.lt Nat _ dx x) (hxs : @LT.lt Nat _ x sa) (hsl : @LT.lt Nat _ sa la) (hr1 : ∀ q ∈ rest0, q.1 ≠ dx) (hr2 : ∀ q ∈ rest0, q.1 ≠ la)
    (H : ∀ td tl tc, Spec w p loose mean mg mb 161 [.ref x, .int i ti, .int j tj] (MLed w kt tx tt pt tp t60 x dx dep td 1 tl sa la (CapL sa la q tc t0 nl ns rest0)) d u (MPost w kt tx tt pt tp t60 x dx dep (CapR sa la t0 nl ns rest0 C e q))) :
    Spec w p loose mean mg mb 217 [.ref x, .int i ti, .int j tj] (MLed w kt tx tt pt tp t60 x dx dep td 1 tl sa la (CapL sa la (-1) tc t0 nl ns rest0)) (d + 3) (u + 32) (MPost w kt tx tt pt tp t60 x dx dep (CapR sa la t0 nl ns rest0 C e (-1))) := by
  unfold Spec
  intro dp un gd cn cs a ccd cl outer A₀ base h₀ L m s Q E B F X N T hk hd hu hret
  (try dsimp only [MLed] at N)
  refine wpAny_call ?_
  k_dflt (refine' code_def ?k1 ?k2 ?k3 ?k4 ?k5 ?kA ?kF ?kK ?k6 ?k7 ?k8 ?k9 ?kB ?_ ?c2 ?c3 ?c4 ?c5; (case kA => exact rfl); (case kF => exact rfl); (case kK => assumption); (case k1 => k_asm); (case k2 => k_asm); (case k3 => k_asm); (case k4 => k_asm); (case k5 => k_asm); (case k6 => k_is); (case k7 => k_is); (case k8 => ktr_room); (case k9 => exact BindsTo.of_eq (show bindArgs _ _ = pure [(("self" : Str), _), (("s" : Str), _), (("p" : Str), _)] from rfl)); (case c5 => decide); (case kB => exact locs rfl); (case c2 => exact rfl); (case c3 => exact rfl); (case c4 => exact rfl); k_whole; intro g' L' h' FG' F' N' B' X' T'; (try dsimp only); (try k_fold))
  k_steps
  rename News _ _ _ _ => N8
  rw [show i - 0 = (q : Int) by omega] at N8
  k_dflt (refine' spec_use (H _ _ _) ?k1 ?k2 ?k3 ?k4 ?k5 ?kK ?kd ?ku ?_)
  (case k1 => k_asm); (case k2 => k_asm); (case k3 => k_asm); (case k4 => k_asm); (case k5 => k_asm); (case kK => first | exact rfl | assumption)
  (case kd => ktr_room); (case ku => ktr_units)
  intro r9 n9 h9 tk9 F9 N9 P9
  obtain ⟨td9, lev9, tl9, sa9, la9, rest9, e9, hr9, q1, q2, q3, v9, tv9, q4, hres⟩ := P9
  subst e9 q1 q2 q3 q4
  rcases hres with ⟨hC, t9, rfl⟩ | ⟨hC, rfl, rfl⟩
  · (try dsimp only); (try k_fold); (try k_sweep)
    dsimp only [MLed] at N9
    k_steps
    exact hret _ _ _ _ (by k_asm) (by k_asm) ⟨_, _, _, _, _, _, rfl, hr9, rfl, rfl, rfl, _, _, rfl, .inl ⟨hC, _, rfl⟩⟩
  · (try dsimp only); (try k_fold); (try k_sweep)
    dsimp only [MLed] at N9
    k_steps
    exact hret _ _ _ _ (by k_asm) (by k_asm) ⟨_, _, _, _, _, _, rfl, cap_ne (neN (by omega)) (neN (by omega)) hr1, rfl, rfl, rfl, _, _, rfl, .inr ⟨hC, rfl, rfl⟩⟩

end

theorem FlushC13 : True ∧ True := by
  w_top off
  walk1 <;> trivial
section
variable {w : World} {p : Program} {loose : List Str} {mean : ExcName → Option Value} {mg mb : Str → Option Value} {kt : Nat → Tok} {tx pt : Array UInt8} {tt tp t60 td tl : Tok} {dep lev : Int} {sa la x dx : Addr} {news rest : List (Addr × Obj)}
local macro_rules | `(tactic| walk_at "ite") => `(tactic| (k_here; k_openite; k_spoken; first
  | (refine ite_pos (by (try simp only [beq_iff_eq, bne_iff_ne, ne_eq, decide_eq_true_eq, Bool.not_eq_true', decide_eq_false_iff_not, beq_eq_false_iff_ne, Bool.and_eq_true, Bool.or_eq_true]); first | assumption | omega) ?_; walk_say "MINE pos")
  | (refine ite_neg (by (try simp only [beq_iff_eq, bne_iff_ne, ne_eq, decide_eq_true_eq, Bool.not_eq_true', decide_eq_false_iff_not, beq_eq_false_iff_ne, Bool.and_eq_true, Bool.or_eq_true]); first | assumption | omega) ?_; walk_say "MINE neg")))
local macro_rules | `(tactic| k_mem) => `(tactic| first | exact List.Mem.head _ | ktr_member | (refine' List.mem_cons_of_mem _ ?_; k_mem))
local macro_rules | `(tactic| walk_at "WPost") => `(tactic| (first | with_reducible refine wpost_ret ?_ | with_reducible refine wpost_next ?_ | with_reducible refine wpost_cont ?_ | with_reducible refine wpost_brk ?_ | dsimp only [WPost]))
local macro_rules | `(tactic| walk_at "exec While") => `(tactic| (k_here; refine stop_ ?_))
local macro_rules | `(tactic| walk_at "exec While Compare") => `(tactic| (k_here; refine stop_ ?_))
local macro_rules | `(tactic| walk_at "exec While Compare cons nil") => `(tactic| (k_here; refine stop_ ?_))
local macro_rules | `(tactic| walk_at "call ref") => `(tactic| (k_here; k_dflt (
  refine' spec_use (count_ok ?m1 ?m2) ?k1 ?k2 ?k3 ?k4 ?k5 ?kK ?kd ?ku ?_
  (case k1 => k_asm); (case k2 => k_asm); (case k3 => k_asm); (case k4 => k_asm); (case k5 => k_asm); (case kK => first | exact rfl | assumption)
  (case m1 => k_mem); (case m2 => k_mem); (case kd => ktr_room); (case ku => ktr_units)
  intro r9 n9 h9 tk9 F9 N9 P9
  obtain ⟨e9, e9'⟩ := P9
  subst e9 e9'
  (try dsimp only); (try k_fold); (try k_sweep))))
local macro_rules | `(tactic| walk_at "call ref") => `(tactic| (k_here; k_dflt (
  refine' spec_use (at_ok ?hp ?hz ?hi ?m1 ?m2) ?k1 ?k2 ?k3 ?k4 ?k5 ?kK ?kd ?ku ?_
  (case k1 => k_asm); (case k2 => k_asm); (case k3 => k_asm); (case k4 => k_asm); (case k5 => k_asm); (case kK => first | exact rfl | assumption)
  (case m1 => k_mem); (case m2 => k_mem); (case kd => ktr_room); (case ku => ktr_units)
  (case hp => assumption); (case hz => assumption); (case hi => first | assumption | omega)
  intro r9 n9 h9 tk9 F9 N9 P9
  obtain ⟨e9, t9, e9'⟩ := P9
  subst e9 e9'
  (try dsimp only); (try k_fold); (try k_sweep))))

set_option maxHeartbeats 8000000 in
theorem mh3_ok {pk : List Int} {i j : Int} {ti tj : Tok} {d u : Nat} {P : List (Addr × Obj) → Value → Prop} (hp : KBw.bInts pt = pk) (hz : pk.length ≤ 1000) (hz3 : 3 < pk.length) (p3 : pk.getD (3 : Int).toNat 0 = 41) (hj : j = 3) (m1 : (x, instObj 253 dx) ∈ news) (m2 : (dx, dictOf (mEs w.params kt tx tt pt tp t60 dep td lev tl sa la) 8) ∈ news)
    (H : ∀ tj, Spec w p loose mean mg mb 217 [.ref x, .int i ti, .int (3 + 1) tj] news d u P) : Spec w p loose mean mg mb 168 [.ref x, .int i ti, .int j tj] news (d + 4) (u + 32) P := by
  subst hj
  unfold Spec
  intro dp un gd cn cs a ccd cl outer A₀ base h₀ L m s Q E B F X N T hk hd hu hret
  (try dsimp only [MLed] at N)
  refine wpAny_call ?_
  k_dflt (refine' code_def ?k1 ?k2 ?k3 ?k4 ?k5 ?kA ?kF ?kK ?k6 ?k7 ?k8 ?k9 ?kB ?_ ?c2 ?c3 ?c4 ?c5; (case kA => exact rfl); (case kF => exact rfl); (case kK => assumption); (case k1 => k_asm); (case k2 => k_asm); (case k3 => k_asm); (case k4 => k_asm); (case k5 => k_asm); (case k6 => k_is); (case k7 => k_is); (case k8 => ktr_room); (case k9 => exact BindsTo.of_eq (show bindArgs _ _ = pure [(("self" : Str), _), (("s" : Str), _), (("p" : Str), _)] from rfl)); (case c5 => decide); (case kB => exact locs rfl); (case c2 => exact rfl); (case c3 => exact rfl); (case c4 => exact rfl); k_whole; intro g' L' h' FG' F' N' B' X' T'; (try dsimp only); (try k_fold))
  k_steps
  refine Stop.go ?_
  rename Fr _ _ _ _ => F1
  rename News _ _ _ _ => N1
  refine w_while (σ := Unit) (fun _ => news) (fun _ => [(("self" : Str), Value.ref x), (("s" : Str), Value.int i ti), (("p" : Str), Value.int 3 tj)]) (fun _ => True) (fun _ => 0) () F1 N1 (fun _ h => h) (by kst_all) trivial ?_
  rintro ⟨⟩ u h tk _ F2 N2
  dsimp only
  k_steps
  k_dflt (refine' spec_use (H _) ?k1 ?k2 ?k3 ?k4 ?k5 ?kK ?kd ?ku ?_)
  (case k1 => k_asm); (case k2 => k_asm); (case k3 => k_asm); (case k4 => exact dropN (by k_asm)); (case k5 => k_asm); (case kK => first | exact rfl | assumption)
  (case kd => ktr_room); (case ku => ktr_units)
  intro r9 n9 h9 tk9 F9 N9 P9
  (try dsimp only); (try k_fold); (try k_sweep)
  k_steps
  exact hret _ _ _ _ (by k_asm) (by k_asm) P9

set_option maxHeartbeats 8000000 in
theorem mh0_ok {pk : List Int} {i j : Int} {ti tj : Tok} {d u : Nat} {P : List (Addr × Obj) → Value → Prop} (hp : KBw.bInts pt = pk) (hz : pk.length ≤ 1000) (hz3 : 0 < pk.length) (p0 : pk.getD (0 : Int).toNat 0 = 40) (p1 : pk.getD ((0 : Int) + 1).toNat 0 = 46) (hj : j = 0) (m1 : (x, instObj 253 dx) ∈ news) (m2 : (dx, dictOf (mEs w.params kt tx tt pt tp t60 dep td lev tl sa la) 8) ∈ news)
    (H : ∀ tj tu, Spec w p loose mean mg mb 210 [.ref x, .int i ti, .int (0 + 1) tj, .int (-1) tu] news d u P) : Spec w p loose mean mg mb 168 [.ref x, .int i ti, .int j tj] news (d + 4) (u + 32) P := by
  subst hj
  unfold Spec
  intro dp un gd cn cs a ccd cl outer A₀ base h₀ L m s Q E B F X N T hk hd hu hret
  (try dsimp only [MLed] at N)
  refine wpAny_call ?_
  k_dflt (refine' code_def ?k1 ?k2 ?k3 ?k4 ?k5 ?kA ?kF ?kK ?k6 ?k7 ?k8 ?k9 ?kB ?_ ?c2 ?c3 ?c4 ?c5; (case kA => exact rfl); (case kF => exact rfl); (case kK => assumption); (case k1 => k_asm); (case k2 => k_asm); (case k3 => k_asm); (case k4 => k_asm); (case k5 => k_asm); (case k6 => k_is); (case k7 => k_is); (case k8 => ktr_room); (case k9 => exact BindsTo.of_eq (show bindArgs _ _ = pure [(("self" : Str), _), (("s" : Str), _), (("p" : Str), _)] from rfl)); (case c5 => decide); (case kB => exact locs rfl); (case c2 => exact rfl); (case c3 => exact rfl); (case c4 => exact rfl); k_whole; intro g' L' h' FG' F' N' B' X' T'; (try dsimp only); (try k_fold))
  k_steps
  refine Stop.go ?_
  rename Fr _ _ _ _ => F1
  rename News _ _ _ _ => N1
  refine w_while (σ := Unit) (fun _ => news) (fun _ => [(("self" : Str), Value.ref x), (("s" : Str), Value.int i ti), (("p" : Str), Value.int 0 tj)]) (fun _ => True) (fun _ => 0) () F1 N1 (fun _ h => h) (by kst_all) trivial ?_
  rintro ⟨⟩ u h tk _ F2 N2
  dsimp only
  k_steps
  k_dflt (refine' spec_use (H _ _) ?k1 ?k2 ?k3 ?k4 ?k5 ?kK ?kd ?ku ?_)
  (case k1 => k_asm); (case k2 => k_asm); (case k3 => k_asm); (case k4 => exact dropN (by k_asm)); (case k5 => k_asm); (case kK => first | exact rfl | assumption)
  (case kd => ktr_room); (case ku => ktr_units)
  intro r9 n9 h9 tk9 F9 N9 P9
  (try dsimp only); (try k_fold); (try k_sweep)
  k_steps
  exact hret _ _ _ _ (by k_asm) (by k_asm) P9

end

theorem FlushC14 : True ∧ True := by
  w_top off
  walk1 <;> trivial
section
variable {w : World} {p : Program} {loose : List Str} {mean : ExcName → Option Value} {mg mb : Str → Option Value} {kt : Nat → Tok} {tx pt : Array UInt8} {tt tp t60 td tl : Tok} {dep lev : Int} {sa la x dx : Addr} {news rest : List (Addr × Obj)}
local macro_rules | `(tactic| walk_at "ite") => `(tactic| (k_here; k_openite; k_spoken; first
  | (refine ite_pos (by (try simp only [beq_iff_eq, bne_iff_ne, ne_eq, decide_eq_true_eq, Bool.not_eq_true', decide_eq_false_iff_not, beq_eq_false_iff_ne, Bool.and_eq_true, Bool.or_eq_true]); first | assumption | omega) ?_; walk_say "MINE pos")
  | (refine ite_neg (by (try simp only [beq_iff_eq, bne_iff_ne, ne_eq, decide_eq_true_eq, Bool.not_eq_true', decide_eq_false_iff_not, beq_eq_false_iff_ne, Bool.and_eq_true, Bool.or_eq_true]); first | assumption | omega) ?_; walk_say "MINE neg")))
local macro_rules | `(tactic| k_mem) => `(tactic| first | exact List.Mem.head _ | ktr_member | (refine' List.mem_cons_of_mem _ ?_; k_mem))
local macro_rules | `(tactic| walk_at "WPost") => `(tactic| (first | with_reducible refine wpost_ret ?_ | with_reducible refine wpost_next ?_ | with_reducible refine wpost_cont ?_ | with_reducible refine wpost_brk ?_ | dsimp only [WPost]))
local macro_rules | `(tactic| walk_at "exec While") => `(tactic| (k_here; refine stop_ ?_))
local macro_rules | `(tactic| walk_at "exec While Compare") => `(tactic| (k_here; refine stop_ ?_))
local macro_rules | `(tactic| walk_at "exec While Compare cons nil") => `(tactic| (k_here; refine stop_ ?_))
local macro_rules | `(tactic| walk_at "exec While Call") => `(tactic| (k_here; refine stop_ ?_))
local macro_rules | `(tactic| walk_at "call ref") => `(tactic| (k_here; k_dflt (
  refine' spec_use (count_ok ?m1 ?m2) ?k1 ?k2 ?k3 ?k4 ?k5 ?kK ?kd ?ku ?_
  (case k1 => k_asm); (case k2 => k_asm); (case k3 => k_asm); (case k4 => k_asm); (case k5 => k_asm); (case kK => first | exact rfl | assumption)
  (case m1 => k_mem); (case m2 => k_mem); (case kd => ktr_room); (case ku => ktr_units)
  intro r9 n9 h9 tk9 F9 N9 P9
  obtain ⟨e9, e9'⟩ := P9
  subst e9 e9'
  (try dsimp only); (try k_fold); (try k_sweep))))
local macro_rules | `(tactic| walk_at "call ref") => `(tactic| (k_here; k_dflt (
  refine' spec_use (is_single_ok ?hp ?hz ?ht ?htz ?hi ?hj ?hj2 ?h1 ?h2 ?m1 ?m2) ?k1 ?k2 ?k3 ?k4 ?k5 ?kK ?kd ?ku ?_
  (case k1 => k_asm); (case k2 => k_asm); (case k3 => k_asm); (case k4 => k_asm); (case k5 => k_asm); (case kK => first | exact rfl | assumption)
  (case m1 => k_mem); (case m2 => k_mem); (case kd => ktr_room); (case ku => ktr_units)
  (case hp => assumption); (case hz => assumption); (case ht => assumption); (case htz => assumption); (case hi => first | assumption | omega); (case hj => first | assumption | omega); (case hj2 => first | assumption | omega); (case h1 => omega); (case h2 => omega)
  intro r9 n9 h9 tk9 F9 N9 P9
  obtain ⟨e9, e9'⟩ := P9
  subst e9 e9'
  (try dsimp only); (try k_fold); (try k_sweep))))

set_option maxHeartbeats 8000000 in
theorem expand_most_ok {pk xk : List Int} {C : Nat → Prop} {i0 : Nat} {i j e : Int} {ti tj te tc t0 : Tok} {nl ns d un' : Nat} {rest0 : List (Addr × Obj)} (hp : KBw.bInts pt = pk) (hz : pk.length ≤ 1000) (ht : KBw.bInts tx = xk) (htz : xk.length ≤ 1000)
    (hj : 0 ≤ j) (hj2 : j < (pk.length : Int)) (p1 : pk.getD j.toNat 0 = 46) (hx : @LT.lt Nat _ dx x) (hxs : @LT.lt Nat _ x sa) (hsl : @LT.lt Nat _ sa la) (hr1 : ∀ q ∈ rest0, q.1 ≠ dx) (hi : i = i0) (hi2 : i0 ≤ xk.length)
    (H : ∀ (k : Nat) td tl tc ti tj, k ≤ xk.length → Spec w p loose mean mg mb 161 [.ref x, .int k ti, .int (e + 1) tj] (MLed w kt tx tt pt tp t60 x dx dep td 1 tl sa la (CapL sa la (-1) tc t0 nl ns rest0)) d un' (MPost w kt tx tt pt tp t60 x dx dep (CapR sa la t0 nl ns rest0 (C k) xk.length (-1)))) :
    Spec w p loose mean mg mb 196 [.ref x, .int i ti, .int j tj, .int e te] (MLed w kt tx tt pt tp t60 x dx dep td 1 tl sa la (CapL sa la (-1) tc t0 nl ns rest0)) (d + 3) (un' + 32) (MPost w kt tx tt pt tp t60 x dx dep (CapR sa la t0 nl ns rest0 (∃ k, i0 ≤ k ∧ k ≤ xk.length ∧ C k) xk.length (-1))) := by
  unfold Spec
  intro dp un gd cn cs a ccd cl outer A₀ base h₀ L m s Q E B F X N T hk hd hu hret
  (try dsimp only [MLed] at N)
  refine wpAny_call ?_
  k_dflt (refine' code_def ?k1 ?k2 ?k3 ?k4 ?k5 ?kA ?kF ?kK ?k6 ?k7 ?k8 ?k9 ?kB ?_ ?c2 ?c3 ?c4 ?c5; (case kA => exact rfl); (case kF => exact rfl); (case kK => assumption); (case k1 => k_asm); (case k2 => k_asm); (case k3 => k_asm); (case k4 => k_asm); (case k5 => k_asm); (case k6 => k_is); (case k7 => k_is); (case k8 => ktr_room); (case k9 => exact BindsTo.of_eq (show bindArgs _ _ = pure [(("self" : Str), _), (("s" : Str), _), (("p" : Str), _), (("end" : Str), _)] from rfl)); (case c5 => decide); (case kB => exact locs rfl); (case c2 => exact rfl); (case c3 => exact rfl); (case c4 => exact rfl); k_whole; intro g' L' h' FG' F' N' B' X' T'; (try dsimp only); (try k_fold))
  k_steps
  refine Stop.go ?_
  rename Fr _ _ _ _ => F1
  rename News _ _ _ _ => N1
  refine w_while (σ := Int × Tok) (fun _ => (x, instObj 253 dx) :: (dx, dictOf (mEs w.params kt tx tt pt tp t60 dep td 1 tl sa la) 8) :: CapL sa la (-1) tc t0 nl ns rest0)
    (fun c => [(("self" : Str), Value.ref x), (("s" : Str), Value.int i ti), (("p" : Str), Value.int j tj), (("end" : Str), Value.int e te), (("many" : Str), Value.int c.1 c.2)])
    (fun c => 0 ≤ c.1 ∧ i0 + c.1 ≤ xk.length) (fun c => (xk.length + 1 - c.1).toNat) (0, _) F1 N1 (fun _ h => h) (by kst_all) ⟨Int.le_refl 0, by dsimp only; omega⟩ ?_
  rintro ⟨b, tb⟩ u h tk ⟨hb0, hb1⟩ F2 N2
  dsimp only at hb0 hb1
  dsimp only
  k_steps
  · exact w_end (_, _) (by k_asm) (by k_asm) (fun _ h => h) (by kst_all) (by dsimp only; omega) (by dsimp only; omega)
  (try clear F1); (try clear N1)
  refine Stop.go ?_
  rename Fr _ _ _ _ => F1
  rename News _ _ _ _ => N1
  have hbn : (i0 : Int) + b = xk.length := by
    rename (¬ (_ ∧ _)) => hq
    have : ¬ (i + b < (xk.length : Int)) := fun z => hq ⟨z, .inl p1⟩
    omega
  refine w_while (σ := Int × Tok × Tok × Tok × Tok) (fun c => (x, instObj 253 dx) :: (dx, dictOf (mEs w.params kt tx tt pt tp t60 dep c.2.2.1 1 c.2.2.2.1 sa la) 8) :: CapL sa la (-1) c.2.2.2.2 t0 nl ns rest0)
    (fun c => [(("self" : Str), Value.ref x), (("s" : Str), Value.int i ti), (("p" : Str), Value.int j tj), (("end" : Str), Value.int e te), (("many" : Str), Value.int c.1 c.2.1)])
    (fun c => -1 ≤ c.1 ∧ c.1 ≤ b ∧ ∀ k : Nat, i0 + c.1 < k → k ≤ xk.length → ¬ C k) (fun c => (c.1 + 1).toNat) (b, tb, td, tl, tc) F1 N1 (fun _ h => h) (by kst_all) ⟨by dsimp only; omega, Int.le_refl _, fun k h1 h2 => by dsimp only at h1; omega⟩ ?_
  rintro ⟨b2, tb2, td2, tl2, tc2⟩ u h tk ⟨hb2, hb3, hb4⟩ F3 N3
  dsimp only at hb2 hb3 hb4 F3 N3
  dsimp only
  k_steps
  · obtain ⟨k, hk⟩ : ∃ k : Nat, i + b2 = k := ⟨(i + b2).toNat, by omega⟩
    rw [hk]
    k_dflt (refine' spec_use (H k _ _ _ _ _ (by omega)) ?k1 ?k2 ?k3 ?k4 ?k5 ?kK ?kd ?ku ?_)
    (case k1 => k_asm); (case k2 => k_asm); (case k3 => k_asm); (case k4 => k_asm); (case k5 => k_asm); (case kK => first | exact rfl | assumption)
    (case kd => ktr_room); (case ku => ktr_units)
    intro r9 n9 h9 tk9 F9 N9 P9
    obtain ⟨td9, lev9, tl9, sa9, la9, rest9, e9, hr9, q1, q2, q3, v9, tv9, q4, hres⟩ := P9
    subst e9 q1 q2 q3 q4
    rcases hres with ⟨hC, t9, rfl⟩ | ⟨hC, rfl, rfl⟩
    · (try dsimp only); (try k_fold); (try k_sweep)
      dsimp only [MLed] at N9
      k_steps
      exact hret _ _ _ _ (by k_asm) (by k_asm) ⟨_, _, _, _, _, _, rfl, hr9, rfl, rfl, rfl, _, _, rfl, .inl ⟨⟨k, by omega, by omega, hC⟩, _, rfl⟩⟩
    · (try dsimp only); (try k_fold); (try k_sweep)
      dsimp only [MLed] at N9
      k_steps
      exact w_end (_, _, _, _, _) (by k_asm) (by k_asm) (fun _ h => h) (by kst_all) (by exact ⟨by omega, by omega, fun k' h1 h2 hC' => by
        rcases Nat.lt_or_ge k k' with h3 | h3
        · exact hb4 k' (by omega) h2 hC'
        · have e9 : k' = k := by omega
          subst e9
          exact hC hC'⟩) (by dsimp only; omega)
  · exact hret _ _ _ _ (by k_asm) (by k_asm) ⟨_, _, _, _, _, _, rfl, cap_ne (neN (by omega)) (neN (by omega)) hr1, rfl, rfl, rfl, _, _, rfl, .inr ⟨fun ⟨k, h1, h2, hC⟩ => hb4 k (by omega) h2 hC, rfl, rfl⟩⟩

end

theorem FlushC15 : True ∧ True := by
  w_top off
  walk1 <;> trivial
section
variable {w : World} {p : Program} {loose : List Str} {mean : ExcName → Option Value} {mg mb : Str → Option Value} {kt : Nat → Tok} {tx pt : Array UInt8} {tt tp t60 td tl : Tok} {dep lev : Int} {sa la x dx : Addr} {news rest : List (Addr × Obj)}
local macro_rules | `(tactic| walk_at "ite") => `(tactic| (k_here; k_openite; k_spoken; first
  | (refine ite_pos (by (try simp only [beq_iff_eq, bne_iff_ne, ne_eq, decide_eq_true_eq, Bool.not_eq_true', decide_eq_false_iff_not, beq_eq_false_iff_ne, Bool.and_eq_true, Bool.or_eq_true]); first | assumption | omega) ?_; walk_say "MINE pos")
  | (refine ite_neg (by (try simp only [beq_iff_eq, bne_iff_ne, ne_eq, decide_eq_true_eq, Bool.not_eq_true', decide_eq_false_iff_not, beq_eq_false_iff_ne, Bool.and_eq_true, Bool.or_eq_true]); first | assumption | omega) ?_; walk_say "MINE neg")))
local macro_rules | `(tactic| k_mem) => `(tactic| first | exact List.Mem.head _ | ktr_member | (refine' List.mem_cons_of_mem _ ?_; k_mem))
local macro_rules | `(tactic| walk_at "WPost") => `(tactic| (first | with_reducible refine wpost_ret ?_ | with_reducible refine wpost_next ?_ | with_reducible refine wpost_cont ?_ | with_reducible refine wpost_brk ?_ | dsimp only [WPost]))
local macro_rules | `(tactic| walk_at "exec While") => `(tactic| (k_here; refine stop_ ?_))
local macro_rules | `(tactic| walk_at "exec While Compare") => `(tactic| (k_here; refine stop_ ?_))
local macro_rules | `(tactic| walk_at "exec While Compare cons nil") => `(tactic| (k_here; refine stop_ ?_))
local macro_rules | `(tactic| walk_at "exec While Constant") => `(tactic| (k_here; refine stop_ ?_))
local macro_rules | `(tactic| walk_at "call ref") => `(tactic| (k_here; k_dflt (
  refine' spec_use (is_single_ok ?hp ?hz ?ht ?htz ?hi ?hj ?hj2 ?h1 ?h2 ?m1 ?m2) ?k1 ?k2 ?k3 ?k4 ?k5 ?kK ?kd ?ku ?_
  (case k1 => k_asm); (case k2 => k_asm); (case k3 => k_asm); (case k4 => k_asm); (case k5 => k_asm); (case kK => first | exact rfl | assumption)
  (case m1 => k_mem); (case m2 => k_mem); (case kd => ktr_room); (case ku => ktr_units)
  (case hp => assumption); (case hz => assumption); (case ht => assumption); (case htz => assumption); (case hi => first | assumption | omega); (case hj => first | assumption | omega); (case hj2 => first | assumption | omega); (case h1 => omega); (case h2 => omega)
  intro r9 n9 h9 tk9 F9 N9 P9
  obtain ⟨e9, e9'⟩ := P9
  subst e9 e9'
  (try dsimp only); (try k_fold); (try k_sweep))))

set_option maxHeartbeats 8000000 in
theorem expand_least_ok {pk xk : List Int} {C : Nat → Prop} {i0 : Nat} {i j e : Int} {ti tj te tc t0 : Tok} {nl ns d un' : Nat} {rest0 : List (Addr × Obj)} (hp : KBw.bInts pt = pk) (hz : pk.length ≤ 1000) (ht : KBw.bInts tx = xk) (htz : xk.length ≤ 1000)
    (hj : 0 ≤ j) (hj2 : j < (pk.length : Int)) (p1 : pk.getD j.toNat 0 = 46) (hx : @LT.lt Nat _ dx x) (hxs : @LT.lt Nat _ x sa) (hsl : @LT.lt Nat _ sa la) (hr1 : ∀ q ∈ rest0, q.1 ≠ dx) (hi : i = i0) (hi2 : i0 ≤ xk.length)
    (H : ∀ (k : Nat) td tl tc ti tj, k ≤ xk.length → Spec w p loose mean mg mb 161 [.ref x, .int k ti, .int (e + 1) tj] (MLed w kt tx tt pt tp t60 x dx dep td 1 tl sa la (CapL sa la (-1) tc t0 nl ns rest0)) d un' (MPost w kt tx tt pt tp t60 x dx dep (CapR sa la t0 nl ns rest0 (C k) xk.length (-1)))) :
    Spec w p loose mean mg mb 203 [.ref x, .int i ti, .int j tj, .int e te] (MLed w kt tx tt pt tp t60 x dx dep td 1 tl sa la (CapL sa la (-1) tc t0 nl ns rest0)) (d + 3) (un' + 32) (MPost w kt tx tt pt tp t60 x dx dep (CapR sa la t0 nl ns rest0 (∃ k, i0 ≤ k ∧ k ≤ xk.length ∧ C k) xk.length (-1))) := by
  unfold Spec
  intro dp un gd cn cs a ccd cl outer A₀ base h₀ L m s Q E B F X N T hk hd hu hret
  (try dsimp only [MLed] at N)
  refine wpAny_call ?_
  k_dflt (refine' code_def ?k1 ?k2 ?k3 ?k4 ?k5 ?kA ?kF ?kK ?k6 ?k7 ?k8 ?k9 ?kB ?_ ?c2 ?c3 ?c4 ?c5; (case kA => exact rfl); (case kF => exact rfl); (case kK => assumption); (case k1 => k_asm); (case k2 => k_asm); (case k3 => k_asm); (case k4 => k_asm); (case k5 => k_asm); (case k6 => k_is); (case k7 => k_is); (case k8 => ktr_room); (case k9 => exact BindsTo.of_eq (show bindArgs _ _ = pure [(("self" : Str), _), (("s" : Str), _), (("p" : Str), _), (("end" : Str), _)] from rfl)); (case c5 => decide); (case kB => exact locs rfl); (case c2 => exact rfl); (case c3 => exact rfl); (case c4 => exact rfl); k_whole; intro g' L' h' FG' F' N' B' X' T'; (try dsimp only); (try k_fold))
  k_steps
  refine Stop.go ?_
  rename Fr _ _ _ _ => F1
  rename News _ _ _ _ => N1
  refine w_while (σ := Int × Tok × Tok × Tok × Tok) (fun c => (x, instObj 253 dx) :: (dx, dictOf (mEs w.params kt tx tt pt tp t60 dep c.2.2.1 1 c.2.2.2.1 sa la) 8) :: CapL sa la (-1) c.2.2.2.2 t0 nl ns rest0)
    (fun c => [(("self" : Str), Value.ref x), (("s" : Str), Value.int c.1 c.2.1), (("p" : Str), Value.int j tj), (("end" : Str), Value.int e te)])
    (fun c => i0 ≤ c.1 ∧ c.1 ≤ xk.length ∧ ∀ k : Nat, i0 ≤ k → k < c.1 → ¬ C k) (fun c => (xk.length + 1 - c.1).toNat) (i, ti, td, tl, tc) F1 N1 (fun _ h => h) (by kst_all) ⟨by dsimp only; omega, by dsimp only; omega, fun k h1 h2 => by dsimp only at h2; omega⟩ ?_
  rintro ⟨b2, tb2, td2, tl2, tc2⟩ u h tk ⟨hb2, hb3, hb4⟩ F3 N3
  dsimp only at hb2 hb3 hb4 F3 N3
  dsimp only
  k_steps
  obtain ⟨k, hk⟩ : ∃ k : Nat, b2 = k := ⟨b2.toNat, by omega⟩
  subst hk
  k_dflt (refine' spec_use (H k _ _ _ _ _ (by omega)) ?k1 ?k2 ?k3 ?k4 ?k5 ?kK ?kd ?ku ?_)
  (case k1 => k_asm); (case k2 => k_asm); (case k3 => k_asm); (case k4 => k_asm); (case k5 => k_asm); (case kK => first | exact rfl | assumption)
  (case kd => ktr_room); (case ku => ktr_units)
  intro r9 n9 h9 tk9 F9 N9 P9
  obtain ⟨td9, lev9, tl9, sa9, la9, rest9, e9, hr9, q1, q2, q3, v9, tv9, q4, hres⟩ := P9
  subst e9 q1 q2 q3 q4
  rcases hres with ⟨hC, t9, rfl⟩ | ⟨hC, rfl, rfl⟩
  · (try dsimp only); (try k_fold); (try k_sweep)
    dsimp only [MLed] at N9
    k_steps
    exact hret _ _ _ _ (by k_asm) (by k_asm) ⟨_, _, _, _, _, _, rfl, hr9, rfl, rfl, rfl, _, _, rfl, .inl ⟨⟨k, by omega, by omega, hC⟩, _, rfl⟩⟩
  · (try dsimp only); (try k_fold); (try k_sweep)
    dsimp only [MLed] at N9
    k_steps
    · exact w_end (_, _, _, _, _) (by k_asm) (by k_asm) (fun _ h => h) (by kst_all) (by exact ⟨by omega, by omega, fun k' h1 h2 hC' => by
        rcases Nat.lt_or_ge k' k with h3 | h3
        · exact hb4 k' h1 (by omega) hC'
        · have e9 : k' = k := by omega
          subst e9
          exact hC hC'⟩) (by dsimp only; omega)
    · rename (¬ (_ ∧ _)) => hq
      have hkn : ¬ ((k : Int) < (xk.length : Int)) := fun z => hq ⟨z, .inl p1⟩
      exact hret _ _ _ _ (by k_asm) (by k_asm) ⟨_, _, _, _, _, _, rfl, hr9, rfl, rfl, rfl, _, _, rfl, .inr ⟨fun ⟨k', h1, h2, hC'⟩ => by
        rcases Nat.lt_or_ge k' k with h3 | h3
        · exact hb4 k' h1 (by omega) hC'
        · have e9 : k' = k := by omega
          subst e9
          exact hC hC', rfl, rfl⟩⟩

end

theorem FlushC16 : True ∧ True := by
  w_top off
  walk1 <;> trivial
section
variable {w : World} {p : Program} {loose : List Str} {mean : ExcName → Option Value} {mg mb : Str → Option Value} {kt : Nat → Tok} {tx pt : Array UInt8} {tt tp t60 td tl : Tok} {dep lev : Int} {sa la x dx : Addr} {news rest : List (Addr × Obj)}
local macro_rules | `(tactic| walk_at "ite") => `(tactic| (k_here; k_openite; k_spoken; first
  | (refine ite_pos (by (try simp only [beq_iff_eq, bne_iff_ne, ne_eq, decide_eq_true_eq, Bool.not_eq_true', decide_eq_false_iff_not, beq_eq_false_iff_ne, Bool.and_eq_true, Bool.or_eq_true]); first | assumption | omega) ?_; walk_say "MINE pos")
  | (refine ite_neg (by (try simp only [beq_iff_eq, bne_iff_ne, ne_eq, decide_eq_true_eq, Bool.not_eq_true', decide_eq_false_iff_not, beq_eq_false_iff_ne, Bool.and_eq_true, Bool.or_eq_true]); first | assumption | omega) ?_; walk_say "MINE neg")))
local macro_rules | `(tactic| k_mem) => `(tactic| first | exact List.Mem.head _ | ktr_member | (refine' List.mem_cons_of_mem _ ?_; k_mem))
local macro_rules | `(tactic| walk_at "WPost") => `(tactic| (first | with_reducible refine wpost_ret ?_ | with_reducible refine wpost_next ?_ | with_reducible refine wpost_cont ?_ | with_reducible refine wpost_brk ?_ | dsimp only [WPost]))
local macro_rules | `(tactic| walk_at "exec While") => `(tactic| (k_here; refine stop_ ?_))
local macro_rules | `(tactic| walk_at "exec While Compare") => `(tactic| (k_here; refine stop_ ?_))
local macro_rules | `(tactic| walk_at "exec While Compare cons nil") => `(tactic| (k_here; refine stop_ ?_))
local macro_rules | `(tactic| walk_at "call ref") => `(tactic| (k_here; k_dflt (
  refine' spec_use (count_ok ?m1 ?m2) ?k1 ?k2 ?k3 ?k4 ?k5 ?kK ?kd ?ku ?_
  (case k1 => k_asm); (case k2 => k_asm); (case k3 => k_asm); (case k4 => k_asm); (case k5 => k_asm); (case kK => first | exact rfl | assumption)
  (case m1 => k_mem); (case m2 => k_mem); (case kd => ktr_room); (case ku => ktr_units)
  intro r9 n9 h9 tk9 F9 N9 P9
  obtain ⟨e9, e9'⟩ := P9
  subst e9 e9'
  (try dsimp only); (try k_fold); (try k_sweep))))
local macro_rules | `(tactic| walk_at "call ref") => `(tactic| (k_here; k_dflt (
  refine' spec_use (at_ok ?hp ?hz ?hi ?m1 ?m2) ?k1 ?k2 ?k3 ?k4 ?k5 ?kK ?kd ?ku ?_
  (case k1 => k_asm); (case k2 => k_asm); (case k3 => k_asm); (case k4 => k_asm); (case k5 => k_asm); (case kK => first | exact rfl | assumption)
  (case m1 => k_mem); (case m2 => k_mem); (case kd => ktr_room); (case ku => ktr_units)
  (case hp => assumption); (case hz => assumption); (case hi => first | assumption | omega)
  intro r9 n9 h9 tk9 F9 N9 P9
  obtain ⟨e9, t9, e9'⟩ := P9
  subst e9 e9'
  (try dsimp only); (try k_fold); (try k_sweep))))
local macro_rules | `(tactic| walk_at "call ref") => `(tactic| (k_here; k_dflt (
  refine' spec_use (class_end_ok ?hp ?hz ?hi ?h1 ?h2 ?m1 ?m2) ?k1 ?k2 ?k3 ?k4 ?k5 ?kK ?kd ?ku ?_
  (case k1 => k_asm); (case k2 => k_asm); (case k3 => k_asm); (case k4 => k_asm); (case k5 => k_asm); (case kK => first | exact rfl | assumption)
  (case m1 => k_mem); (case m2 => k_mem); (case kd => ktr_room); (case ku => ktr_units)
  (case hp => assumption); (case hz => assumption); (case hi => first | assumption | omega); (case h1 => omega); (case h2 => omega)
  intro r9 n9 h9 tk9 F9 N9 P9
  obtain ⟨e9, t9, e9'⟩ := P9
  subst e9 e9'
  (try dsimp only); (try k_fold); (try k_sweep))))
local macro_rules | `(tactic| walk_at "call ref") => `(tactic| (k_here; k_dflt (
  refine' spec_use (is_single_ok ?hp ?hz ?ht ?htz ?hi ?hj ?hj2 ?h1 ?h2 ?m1 ?m2) ?k1 ?k2 ?k3 ?k4 ?k5 ?kK ?kd ?ku ?_
  (case k1 => k_asm); (case k2 => k_asm); (case k3 => k_asm); (case k4 => k_asm); (case k5 => k_asm); (case kK => first | exact rfl | assumption)
  (case m1 => k_mem); (case m2 => k_mem); (case kd => ktr_room); (case ku => ktr_units)
  (case hp => assumption); (case hz => assumption); (case ht => assumption); (case htz => assumption); (case hi => first | assumption | omega); (case hj => first | assumption | omega); (case hj2 => first | assumption | omega); (case h1 => omega); (case h2 => omega)
  intro r9 n9 h9 tk9 F9 N9 P9
  obtain ⟨e9, e9'⟩ := P9
  subst e9 e9'
  (try dsimp only); (try k_fold); (try k_sweep))))

set_option maxHeartbeats 8000000 in
theorem mh1A_ok {pk xk : List Int} {i j : Int} {ti tj : Tok} {d un' : Nat} {P : List (Addr × Obj) → Value → Prop} (hp : KBw.bInts pt = pk) (hz : pk.length ≤ 1000) (hz3 : 1 < pk.length) (ht : KBw.bInts tx = xk) (htz : xk.length ≤ 1000)
    (p1 : pk.getD (1 : Int).toNat 0 = 46) (p2 : pk.getD ((1 : Int) + 1).toNat 0 = 43) (hi : 0 ≤ i) (hj : j = 1) (m1 : (x, instObj 253 dx) ∈ news) (m2 : (dx, dictOf (mEs w.params kt tx tt pt tp t60 dep td lev tl sa la) 8) ∈ news)
    (H : ∀ ti tj te, i < xk.length → Spec w p loose mean mg mb 196 [.ref x, .int (i + 1) ti, .int 1 tj, .int (1 + 1) te] news d un' P) (H0 : ¬ i < xk.length → P news .none) : Spec w p loose mean mg mb 168 [.ref x, .int i ti, .int j tj] news (d + 4) (un' + 32) P := by
  subst hj
  unfold Spec
  intro dp un gd cn cs a ccd cl outer A₀ base h₀ L m s Q E B F X N T hk hd hu hret
  (try dsimp only [MLed] at N)
  refine wpAny_call ?_
  k_dflt (refine' code_def ?k1 ?k2 ?k3 ?k4 ?k5 ?kA ?kF ?kK ?k6 ?k7 ?k8 ?k9 ?kB ?_ ?c2 ?c3 ?c4 ?c5; (case kA => exact rfl); (case kF => exact rfl); (case kK => assumption); (case k1 => k_asm); (case k2 => k_asm); (case k3 => k_asm); (case k4 => k_asm); (case k5 => k_asm); (case k6 => k_is); (case k7 => k_is); (case k8 => ktr_room); (case k9 => exact BindsTo.of_eq (show bindArgs _ _ = pure [(("self" : Str), _), (("s" : Str), _), (("p" : Str), _)] from rfl)); (case c5 => decide); (case kB => exact locs rfl); (case c2 => exact rfl); (case c3 => exact rfl); (case c4 => exact rfl); k_whole; intro g' L' h' FG' F' N' B' X' T'; (try dsimp only); (try k_fold))
  k_steps
  refine Stop.go ?_
  rename Fr _ _ _ _ => F1
  rename News _ _ _ _ => N1
  refine w_while (σ := Unit) (fun _ => news) (fun _ => [(("self" : Str), Value.ref x), (("s" : Str), Value.int i ti), (("p" : Str), Value.int 1 tj)]) (fun _ => True) (fun _ => 0) () F1 N1 (fun _ h => h) (by kst_all) trivial ?_
  rintro ⟨⟩ u h tk _ F2 N2
  dsimp only
  k_steps
  · rename (_ ∧ _) => hq
    k_dflt (refine' spec_use (H _ _ _ hq.1) ?k1 ?k2 ?k3 ?k4 ?k5 ?kK ?kd ?ku ?_)
    (case k1 => k_asm); (case k2 => k_asm); (case k3 => k_asm); (case k4 => exact dropN (by k_asm)); (case k5 => k_asm); (case kK => first | exact rfl | assumption)
    (case kd => ktr_room); (case ku => ktr_units)
    intro r9 n9 h9 tk9 F9 N9 P9
    (try dsimp only); (try k_fold); (try k_sweep)
    k_steps
    exact hret _ _ _ _ (by k_asm) (by k_asm) P9
  · rename (¬ (_ ∧ _)) => hq
    exact hret _ _ _ _ (by k_asm) (dropN (by k_asm)) (H0 fun z => hq ⟨z, .inl p1⟩)

set_option maxHeartbeats 8000000 in
theorem mh1B_ok {pk : List Int} {i j : Int} {ti tj : Tok} {d un' : Nat} {P : List (Addr × Obj) → Value → Prop} (hp : KBw.bInts pt = pk) (hz : pk.length ≤ 1000) (hz3 : 1 < pk.length)
    (p1 : pk.getD (1 : Int).toNat 0 = 46) (p2 : pk.getD ((1 : Int) + 1).toNat 0 = 45) (hj : j = 1) (m1 : (x, instObj 253 dx) ∈ news) (m2 : (dx, dictOf (mEs w.params kt tx tt pt tp t60 dep td lev tl sa la) 8) ∈ news)
    (H : ∀ tj te, Spec w p loose mean mg mb 203 [.ref x, .int i ti, .int 1 tj, .int (1 + 1) te] news d un' P) : Spec w p loose mean mg mb 168 [.ref x, .int i ti, .int j tj] news (d + 4) (un' + 32) P := by
  subst hj
  unfold Spec
  intro dp un gd cn cs a ccd cl outer A₀ base h₀ L m s Q E B F X N T hk hd hu hret
  (try dsimp only [MLed] at N)
  refine wpAny_call ?_
  k_dflt (refine' code_def ?k1 ?k2 ?k3 ?k4 ?k5 ?kA ?kF ?kK ?k6 ?k7 ?k8 ?k9 ?kB ?_ ?c2 ?c3 ?c4 ?c5; (case kA => exact rfl); (case kF => exact rfl); (case kK => assumption); (case k1 => k_asm); (case k2 => k_asm); (case k3 => k_asm); (case k4 => k_asm); (case k5 => k_asm); (case k6 => k_is); (case k7 => k_is); (case k8 => ktr_room); (case k9 => exact BindsTo.of_eq (show bindArgs _ _ = pure [(("self" : Str), _), (("s" : Str), _), (("p" : Str), _)] from rfl)); (case c5 => decide); (case kB => exact locs rfl); (case c2 => exact rfl); (case c3 => exact rfl); (case c4 => exact rfl); k_whole; intro g' L' h' FG' F' N' B' X' T'; (try dsimp only); (try k_fold))
  k_steps
  refine Stop.go ?_
  rename Fr _ _ _ _ => F1
  rename News _ _ _ _ => N1
  refine w_while (σ := Unit) (fun _ => news) (fun _ => [(("self" : Str), Value.ref x), (("s" : Str), Value.int i ti), (("p" : Str), Value.int 1 tj)]) (fun _ => True) (fun _ => 0) () F1 N1 (fun _ h => h) (by kst_all) trivial ?_
  rintro ⟨⟩ u h tk _ F2 N2
  dsimp only
  k_steps
  k_dflt (refine' spec_use (H _ _) ?k1 ?k2 ?k3 ?k4 ?k5 ?kK ?kd ?ku ?_)
  (case k1 => k_asm); (case k2 => k_asm); (case k3 => k_asm); (case k4 => exact dropN (by k_asm)); (case k5 => k_asm); (case kK => first | exact rfl | assumption)
  (case kd => ktr_room); (case ku => ktr_units)
  intro r9 n9 h9 tk9 F9 N9 P9
  (try dsimp only); (try k_fold); (try k_sweep)
  k_steps
  exact hret _ _ _ _ (by k_asm) (by k_asm) P9

end

theorem FlushC17 : True ∧ True := by
  w_top off
  walk1 <;> trivial
theorem pick_start {h₀ h : Heap} {L : Addr} {a1 a2 a3 a4 a5 a6 a7 a8 b1 b2 : Addr × Obj} {r : List (Addr × Obj)} (N : News h₀ L h (a1 :: a2 :: a3 :: a4 :: a5 :: a6 :: a7 :: a8 :: b1 :: b2 :: r)) : News h₀ L h (a7 :: a8 :: a1 :: a4 :: r) := by
  intro p hp
  simp only [List.mem_cons] at hp
  refine N p ?_
  simp only [List.mem_cons]
  rcases hp with h | h | h | h | h <;> simp [h]
section
variable {w : World} {p : Program} {loose : List Str} {mean : ExcName → Option Value} {mg mb : Str → Option Value} {kt : Nat → Tok} {tx pt : Array UInt8} {tt tp t60 td tl : Tok} {dep lev : Int} {sa la x dx : Addr} {news rest : List (Addr × Obj)}
local macro_rules | `(tactic| walk_at "ite") => `(tactic| (k_here; k_openite; k_spoken; first
  | (refine ite_pos (by (try simp only [beq_iff_eq, bne_iff_ne, ne_eq, decide_eq_true_eq, Bool.not_eq_true', decide_eq_false_iff_not, beq_eq_false_iff_ne, Bool.and_eq_true, Bool.or_eq_true]); first | assumption | omega) ?_; walk_say "MINE pos")
  | (refine ite_neg (by (try simp only [beq_iff_eq, bne_iff_ne, ne_eq, decide_eq_true_eq, Bool.not_eq_true', decide_eq_false_iff_not, beq_eq_false_iff_ne, Bool.and_eq_true, Bool.or_eq_true]); first | assumption | omega) ?_; walk_say "MINE neg")))
local macro_rules | `(tactic| k_mem) => `(tactic| first | exact List.Mem.head _ | ktr_member | (refine' List.mem_cons_of_mem _ ?_; k_mem))
local macro_rules | `(tactic| walk_at "subscriptTail") => `(tactic| (k_here; (with_reducible show wpAny _ _ (subscriptTail _ _ (Value.ref _) (Value.int _ _)) _ _ _); (with_unfolding_all refine' item_litK ?k1 ?k2 ?k3 ?k4 ?_ ?k6; (case k1 => exact News.isList (by k_asm) (by k_mem)); (case k2 => decide); (case k3 => decide); (case k4 => rfl); (case k6 => with_unfolding_all rfl); k_whole)))
local macro_rules | `(tactic| k_all) => `(tactic| assumption)

set_option maxHeartbeats 8000000 in
theorem start_capture_ok {C : Prop} {e : Int} {i j k : Int} {ti tj tk1 : Tok} {ns0 nl0 d un' : Nat} {rest0 : List (Addr × Obj)} (hi : i = 0) (hk : k = -1) (hx : @LT.lt Nat _ dx x) (hxs : @LT.lt Nat _ x sa) (hsl : @LT.lt Nat _ sa la) (hr1 : ∀ q ∈ rest0, q.1 ≠ dx) (hr2 : ∀ q ∈ rest0, @LT.lt Nat _ q.1 sa)
    (H : ∀ td tl sa' la' tc t0 nl ns rest', (∀ q ∈ rest', q.1 ≠ dx) → (∀ q ∈ rest0, q ∈ rest') → (∀ q ∈ rest', q.1 ≠ la') → @LT.lt Nat _ x sa' → @LT.lt Nat _ sa' la' →
      Spec w p loose mean mg mb 161 [.ref x, .int i ti, .int j tj] (MLed w kt tx tt pt tp t60 x dx dep td 1 tl sa' la' (CapL sa' la' (-1) tc t0 nl ns rest')) d un' (MPost w kt tx tt pt tp t60 x dx dep (CapR sa' la' t0 nl ns rest' C e (-1)))) :
    Spec w p loose mean mg mb 210 [.ref x, .int i ti, .int j tj, .int k tk1] (MLed w kt tx tt pt tp t60 x dx dep td 0 tl sa la ((la, W.listOf #[] nl0) :: (sa, W.listOf #[] ns0) :: rest0)) (d + 3) (un' + 32) (MPost w kt tx tt pt tp t60 x dx dep (MRes rest0 C e)) := by
  subst hi hk
  unfold Spec
  intro dp un gd cn cs a ccd cl outer A₀ base h₀ L m s Q E B F X N T hk hd hu hret
  (try dsimp only [MLed] at N)
  refine wpAny_call ?_
  k_dflt (refine' code_def ?k1 ?k2 ?k3 ?k4 ?k5 ?kA ?kF ?kK ?k6 ?k7 ?k8 ?k9 ?kB ?_ ?c2 ?c3 ?c4 ?c5; (case kA => exact rfl); (case kF => exact rfl); (case kK => assumption); (case k1 => k_asm); (case k2 => k_asm); (case k3 => k_asm); (case k4 => k_asm); (case k5 => k_asm); (case k6 => k_is); (case k7 => k_is); (case k8 => ktr_room); (case k9 => exact BindsTo.of_eq (show bindArgs _ _ = pure [(("self" : Str), _), (("s" : Str), _), (("p" : Str), _), (("kind" : Str), _)] from rfl)); (case c5 => decide); (case kB => exact locs rfl); (case c2 => exact rfl); (case c3 => exact rfl); (case c4 => exact rfl); k_whole; intro g' L' h' FG' F' N' B' X' T'; (try dsimp only); (try k_fold))
  k_steps
  rename News _ _ _ _ => N8
  have N10 := pick_start N8
  clear N8
  k_dflt (refine' spec_use (H _ _ _ _ _ _ _ _ rest0 hr1 (fun _ h => h) ?g1 ?g2 ?g3) ?k1 ?k2 ?k3 ?k4 ?k5 ?kK ?kd ?ku ?_)
  (case k1 => k_asm); (case k2 => k_asm); (case k3 => k_asm); (case k4 => exact N10); (case k5 => k_asm); (case kK => first | exact rfl | assumption)
  (case g1 => exact fun q hq => Nat.ne_of_lt (Nat.lt_trans (hr2 q hq) (ltN (by omega))))
  (case g2 => exact ltN (by omega))
  (case g3 => exact ltN (by omega))
  (case kd => ktr_room); (case ku => ktr_units)
  intro r9 n9 h9 tk9 F9 N9 P9
  obtain ⟨td9, lev9, tl9, sa9, la9, rest9, e9, hr9, q1, q2, q3, v9, tv9, q4, hres⟩ := P9
  subst e9 q1 q4
  rcases hres with ⟨hC, t9, rfl⟩ | ⟨hC, rfl, rfl⟩
  · (try dsimp only); (try k_fold); (try k_sweep)
    dsimp only [MLed] at N9
    k_steps
    exact hret _ _ _ _ (by k_asm) (by k_asm) ⟨_, _, _, _, _, _, rfl, hr9, fun q hq => .tail _ (.tail _ hq), .inl ⟨hC, _, rfl⟩⟩
  · (try dsimp only); (try k_fold); (try k_sweep)
    dsimp only [MLed] at N9
    k_steps
    exact hret _ _ _ _ (by k_asm) (by k_asm) ⟨_, _, _, _, _, _, rfl, hr9, fun q hq => .tail _ (.tail _ hq), .inr ⟨hC, rfl⟩⟩

end

theorem FlushC18 : True ∧ True := by
  w_top off
  walk1 <;> trivial
abbrev pkA : List Int := [40, 46, 43, 41, 37, 49, 36]
abbrev pkB : List Int := [40, 46, 45, 41, 37, 49, 37, 49, 36]
section
variable {w : World} {p : Program} {loose : List Str} {mean : ExcName → Option Value} {mg mb : Str → Option Value} {kt : Nat → Tok} {tx pt : Array UInt8} {tt tp t60 td tl : Tok} {dep lev : Int} {sa la x dx : Addr} {news rest : List (Addr × Obj)}

theorem m4A {xk : List Int} {q : Nat} {ti tj tc t0 : Tok} {nl ns : Nat} {rest0 : List (Addr × Obj)} (hp : KBw.bInts pt = pkA) (ht : KBw.bInts tx = xk) (htz : xk.length ≤ 1000) (hx : @LT.lt Nat _ dx x) (hr : ∀ q ∈ CapL sa la (-1) tc t0 nl ns rest0, q.1 ≠ dx) (h0 : 0 ≤ dep) (h1 : dep < 60) :
    Spec w p loose mean mg mb 161 [.ref x, .int q ti, .int (3 + 1) tj] (MLed w kt tx tt pt tp t60 x dx dep td 1 tl sa la (CapL sa la q tc t0 nl ns rest0)) 8 96 (MPost w kt tx tt pt tp t60 x dx dep (CapR sa la t0 nl ns rest0 (TailA xk q) xk.length q)) := by
  have hr' : ∀ p ∈ CapL sa la q tc t0 nl ns rest0, p.1 ≠ dx := cap_ne (hr _ (.head _)) (hr _ (.tail _ (.head _))) fun p hp => hr p (.tail _ (.tail _ hp))
  refine match_ok hx hr' h0 h1 fun td' => (mh4A (q := q) hp rfl ht htz (by decide) (by decide) (by decide) rfl rfl rfl (.head _) (.tail _ (.head _)) (.tail _ (.tail _ (.head _))) (.tail _ (.tail _ (.tail _ (.head _))))).mono (fun n r h => ?_) (Nat.le_refl _) (Nat.le_refl _)
  exact ⟨td', 1, tl, sa, la, _, h.1.symm, hr', rfl, rfl, rfl, _, _, rfl, h.2.elim .inl fun z => .inr ⟨z.1, z.2, rfl⟩⟩
theorem m4B {xk : List Int} {q : Nat} {ti tj tc t0 : Tok} {nl ns : Nat} {rest0 : List (Addr × Obj)} (hp : KBw.bInts pt = pkB) (ht : KBw.bInts tx = xk) (htz : xk.length ≤ 1000) (hx : @LT.lt Nat _ dx x) (hr : ∀ q ∈ CapL sa la (-1) tc t0 nl ns rest0, q.1 ≠ dx) (h0 : 0 ≤ dep) (h1 : dep < 60) :
    Spec w p loose mean mg mb 161 [.ref x, .int q ti, .int (3 + 1) tj] (MLed w kt tx tt pt tp t60 x dx dep td 1 tl sa la (CapL sa la q tc t0 nl ns rest0)) 8 96 (MPost w kt tx tt pt tp t60 x dx dep (CapR sa la t0 nl ns rest0 (TailB xk q) xk.length q)) := by
  have hr' : ∀ p ∈ CapL sa la q tc t0 nl ns rest0, p.1 ≠ dx := cap_ne (hr _ (.head _)) (hr _ (.tail _ (.head _))) fun p hp => hr p (.tail _ (.tail _ hp))
  refine match_ok hx hr' h0 h1 fun td' => (mh4B (q := q) hp rfl ht htz (by decide) (by decide) (by decide) (by decide) (by decide) rfl rfl rfl (.head _) (.tail _ (.head _)) (.tail _ (.tail _ (.head _))) (.tail _ (.tail _ (.tail _ (.head _))))).mono (fun n r h => ?_) (Nat.le_refl _) (Nat.le_refl _)
  exact ⟨td', 1, tl, sa, la, _, h.1.symm, hr', rfl, rfl, rfl, _, _, rfl, h.2.elim .inl fun z => .inr ⟨z.1, z.2, rfl⟩⟩

theorem m3A {xk : List Int} {q : Nat} {ti tj tc t0 : Tok} {nl ns : Nat} {rest0 : List (Addr × Obj)} (hp : KBw.bInts pt = pkA) (ht : KBw.bInts tx = xk) (htz : xk.length ≤ 1000) (hx : @LT.lt Nat _ dx x) (hxs : @LT.lt Nat _ x sa) (hsl : @LT.lt Nat _ sa la) (hr1 : ∀ q ∈ rest0, q.1 ≠ dx) (hr2 : ∀ q ∈ rest0, q.1 ≠ la) (h0 : 0 ≤ dep) (h1 : dep < 59) :
    Spec w p loose mean mg mb 161 [.ref x, .int q ti, .int (1 + 1 + 1) tj] (MLed w kt tx tt pt tp t60 x dx dep td 1 tl sa la (CapL sa la (-1) tc t0 nl ns rest0)) 17 192 (MPost w kt tx tt pt tp t60 x dx dep (CapR sa la t0 nl ns rest0 (TailA xk q) xk.length (-1))) := by
  have hr : ∀ tc, ∀ p ∈ CapL sa la (-1) tc t0 nl ns rest0, p.1 ≠ dx := fun tc => cap_ne (neN (by omega)) (neN (by omega)) hr1
  exact match_ok hx (hr tc) h0 (by omega) fun td' => mh3_ok hp (by decide) (by decide) (by decide) (by decide) (.head _) (.tail _ (.head _)) fun tj => end_capture_ok rfl hx hxs hsl hr1 hr2 fun td tl tc => m4A hp ht htz hx (hr tc) (by omega) (by omega)
theorem m3B {xk : List Int} {q : Nat} {ti tj tc t0 : Tok} {nl ns : Nat} {rest0 : List (Addr × Obj)} (hp : KBw.bInts pt = pkB) (ht : KBw.bInts tx = xk) (htz : xk.length ≤ 1000) (hx : @LT.lt Nat _ dx x) (hxs : @LT.lt Nat _ x sa) (hsl : @LT.lt Nat _ sa la) (hr1 : ∀ q ∈ rest0, q.1 ≠ dx) (hr2 : ∀ q ∈ rest0, q.1 ≠ la) (h0 : 0 ≤ dep) (h1 : dep < 59) :
    Spec w p loose mean mg mb 161 [.ref x, .int q ti, .int (1 + 1 + 1) tj] (MLed w kt tx tt pt tp t60 x dx dep td 1 tl sa la (CapL sa la (-1) tc t0 nl ns rest0)) 17 192 (MPost w kt tx tt pt tp t60 x dx dep (CapR sa la t0 nl ns rest0 (TailB xk q) xk.length (-1))) := by
  have hr : ∀ tc, ∀ p ∈ CapL sa la (-1) tc t0 nl ns rest0, p.1 ≠ dx := fun tc => cap_ne (neN (by omega)) (neN (by omega)) hr1
  exact match_ok hx (hr tc) h0 (by omega) fun td' => mh3_ok hp (by decide) (by decide) (by decide) (by decide) (.head _) (.tail _ (.head _)) fun tj => end_capture_ok rfl hx hxs hsl hr1 hr2 fun td tl tc => m4B hp ht htz hx (hr tc) (by omega) (by omega)

def SqA (xk : List Int) : Prop := ∃ k, 1 ≤ k ∧ k ≤ xk.length ∧ TailA xk k
def CuB (xk : List Int) : Prop := ∃ k, 0 ≤ k ∧ k ≤ xk.length ∧ TailB xk k

theorem m1A {xk : List Int} {ti tj tc t0 : Tok} {nl ns : Nat} {rest0 : List (Addr × Obj)} (hp : KBw.bInts pt = pkA) (ht : KBw.bInts tx = xk) (htz : xk.length ≤ 1000) (hx : @LT.lt Nat _ dx x) (hxs : @LT.lt Nat _ x sa) (hsl : @LT.lt Nat _ sa la) (hr1 : ∀ q ∈ rest0, q.1 ≠ dx) (hr2 : ∀ q ∈ rest0, q.1 ≠ la) (h0 : 0 ≤ dep) (h1 : dep < 58) :
    Spec w p loose mean mg mb 161 [.ref x, .int 0 ti, .int (0 + 1) tj] (MLed w kt tx tt pt tp t60 x dx dep td 1 tl sa la (CapL sa la (-1) tc t0 nl ns rest0)) 26 288 (MPost w kt tx tt pt tp t60 x dx dep (CapR sa la t0 nl ns rest0 (SqA xk) xk.length (-1))) := by
  have hr : ∀ tc, ∀ p ∈ CapL sa la (-1) tc t0 nl ns rest0, p.1 ≠ dx := fun tc => cap_ne (neN (by omega)) (neN (by omega)) hr1
  refine match_ok hx (hr tc) h0 (by omega) fun td' => mh1A_ok hp (by decide) (by decide) ht htz (by decide) (by decide) (Int.le_refl 0) (by decide) (.head _) (.tail _ (.head _))
    (fun ti tj te hlt => expand_most_ok (i0 := 1) hp (by decide) ht htz (by decide) (by decide) (by decide) hx hxs hsl hr1 rfl (by omega) fun k td tl tc ti tj hk => m3A hp ht htz hx hxs hsl hr1 hr2 (by omega) (by omega)) fun hn => ?_
  exact ⟨td', 1, tl, sa, la, _, rfl, hr tc, rfl, rfl, rfl, _, _, rfl, .inr ⟨fun ⟨k, k1, k2, _⟩ => by omega, rfl, rfl⟩⟩
theorem m1B {xk : List Int} {ti tj tc t0 : Tok} {nl ns : Nat} {rest0 : List (Addr × Obj)} (hp : KBw.bInts pt = pkB) (ht : KBw.bInts tx = xk) (htz : xk.length ≤ 1000) (hx : @LT.lt Nat _ dx x) (hxs : @LT.lt Nat _ x sa) (hsl : @LT.lt Nat _ sa la) (hr1 : ∀ q ∈ rest0, q.1 ≠ dx) (hr2 : ∀ q ∈ rest0, q.1 ≠ la) (h0 : 0 ≤ dep) (h1 : dep < 58) :
    Spec w p loose mean mg mb 161 [.ref x, .int 0 ti, .int (0 + 1) tj] (MLed w kt tx tt pt tp t60 x dx dep td 1 tl sa la (CapL sa la (-1) tc t0 nl ns rest0)) 26 288 (MPost w kt tx tt pt tp t60 x dx dep (CapR sa la t0 nl ns rest0 (CuB xk) xk.length (-1))) := by
  have hr : ∀ tc, ∀ p ∈ CapL sa la (-1) tc t0 nl ns rest0, p.1 ≠ dx := fun tc => cap_ne (neN (by omega)) (neN (by omega)) hr1
  exact match_ok hx (hr tc) h0 (by omega) fun td' => mh1B_ok hp (by decide) (by decide) (by decide) (by decide) (by decide) (.head _) (.tail _ (.head _))
    (fun tj te => expand_least_ok (i0 := 0) hp (by decide) ht htz (by decide) (by decide) (by decide) hx hxs hsl hr1 rfl (by omega) fun k td tl tc ti tj hk => m3B hp ht htz hx hxs hsl hr1 hr2 (by omega) (by omega))

theorem m0A {xk : List Int} {ti tj : Tok} {nl ns : Nat} {rest0 : List (Addr × Obj)} (hp : KBw.bInts pt = pkA) (ht : KBw.bInts tx = xk) (htz : xk.length ≤ 1000) (hx : @LT.lt Nat _ dx x) (hxs : @LT.lt Nat _ x sa) (hsl : @LT.lt Nat _ sa la) (hr1 : ∀ q ∈ rest0, q.1 ≠ dx) (hr2 : ∀ q ∈ rest0, @LT.lt Nat _ q.1 sa) (h0 : 0 ≤ dep) (h1 : dep < 57) :
    Spec w p loose mean mg mb 161 [.ref x, .int 0 ti, .int 0 tj] (MLed w kt tx tt pt tp t60 x dx dep td 0 tl sa la ((la, W.listOf #[] nl) :: (sa, W.listOf #[] ns) :: rest0)) 35 384 (MPost w kt tx tt pt tp t60 x dx dep (MRes rest0 (SqA xk) xk.length)) := by
  have hr : ∀ p ∈ (la, W.listOf #[] nl) :: (sa, W.listOf #[] ns) :: rest0, p.1 ≠ dx := fun p hp => by
    rcases List.mem_cons.mp hp with rfl | hp
    · exact neN (by dsimp only; omega)
    · rcases List.mem_cons.mp hp with rfl | hp
      · exact neN (by dsimp only; omega)
      · exact hr1 p hp
  exact match_ok hx hr h0 (by omega) fun td' => mh0_ok hp (by decide) (by decide) (by decide) (by decide) rfl (.head _) (.tail _ (.head _)) fun tj tu => start_capture_ok rfl rfl hx hxs hsl hr1 hr2
    fun td tl sa' la' tc t0 nl ns rest' a1 a2 a3 a4 a5 => m1A hp ht htz hx a4 a5 a1 a3 (by omega) (by omega)
theorem m0B {xk : List Int} {ti tj : Tok} {nl ns : Nat} {rest0 : List (Addr × Obj)} (hp : KBw.bInts pt = pkB) (ht : KBw.bInts tx = xk) (htz : xk.length ≤ 1000) (hx : @LT.lt Nat _ dx x) (hxs : @LT.lt Nat _ x sa) (hsl : @LT.lt Nat _ sa la) (hr1 : ∀ q ∈ rest0, q.1 ≠ dx) (hr2 : ∀ q ∈ rest0, @LT.lt Nat _ q.1 sa) (h0 : 0 ≤ dep) (h1 : dep < 57) :
    Spec w p loose mean mg mb 161 [.ref x, .int 0 ti, .int 0 tj] (MLed w kt tx tt pt tp t60 x dx dep td 0 tl sa la ((la, W.listOf #[] nl) :: (sa, W.listOf #[] ns) :: rest0)) 35 384 (MPost w kt tx tt pt tp t60 x dx dep (MRes rest0 (CuB xk) xk.length)) := by
  have hr : ∀ p ∈ (la, W.listOf #[] nl) :: (sa, W.listOf #[] ns) :: rest0, p.1 ≠ dx := fun p hp => by
    rcases List.mem_cons.mp hp with rfl | hp
    · exact neN (by dsimp only; omega)
    · rcases List.mem_cons.mp hp with rfl | hp
      · exact neN (by dsimp only; omega)
      · exact hr1 p hp
  exact match_ok hx hr h0 (by omega) fun td' => mh0_ok hp (by decide) (by decide) (by decide) (by decide) rfl (.head _) (.tail _ (.head _)) fun tj tu => start_capture_ok rfl rfl hx hxs hsl hr1 hr2
    fun td tl sa' la' tc t0 nl ns rest' a1 a2 a3 a4 a5 => m1B hp ht htz hx a4 a5 a1 a3 (by omega) (by omega)

end

theorem FlushC19 : True ∧ True := by
  w_top off
  walk1 <;> trivial
namespace Fd
theorem slot_find : Slot "bytes" "find" "bytes.find" :=
  .of (owner := "bytes") (n := "find") (by rw [typeLookup_type, builtinLookup_eq_fast]; kernel_rfl) (by decide +kernel) (by decide +kernel) (by decide +kernel)
    (by first | exact .inl (by decide +kernel) | exact .inr (by decide +kernel)) (by rw [isSubtype_type]; kernel_rfl)
theorem type_find : typeOf (.builtin "bytes.find") = pure (.type "method_descriptor") := by show builtinType _ = _; rw [builtinType_eq_fast]; kernel_rfl
theorem entry_find : entryFor table "bytes.find" = some Builtin.«bytes.find» := entryFor_of_tree (by kernel_rfl)
theorem args_find (a b : Value) : argsOk "bytes.find" ⟨[a, b], []⟩ := by
  unfold argsOk; rw [signature?_of (id := "bytes.find") (n := ['d', 'n', 'i', 'f']) (o := ['s', 'e', 't', 'y', 'b']) (by kernel_rfl) FB.owner_bytes]; kernel_rfl
theorem slot_join : Slot "bytes" "join" "bytes.join" :=
  .of (owner := "bytes") (n := "join") (by rw [typeLookup_type, builtinLookup_eq_fast]; kernel_rfl) (by decide +kernel) (by decide +kernel) (by decide +kernel)
    (by first | exact .inl (by decide +kernel) | exact .inr (by decide +kernel)) (by rw [isSubtype_type]; kernel_rfl)
theorem type_join : typeOf (.builtin "bytes.join") = pure (.type "method_descriptor") := by show builtinType _ = _; rw [builtinType_eq_fast]; kernel_rfl
theorem entry_join : entryFor table "bytes.join" = some Builtin.«bytes.join» := entryFor_of_tree (by kernel_rfl)
theorem args_join (a b : Value) : argsOk "bytes.join" ⟨[a, b], []⟩ := by
  unfold argsOk; rw [signature?_of (id := "bytes.join") (n := ['n', 'i', 'o', 'j']) (o := ['s', 'e', 't', 'y', 'b']) (by kernel_rfl) FB.owner_bytes]; kernel_rfl

theorem find_none {b : Array UInt8} {lo hi : Nat} (h : ∀ c ∈ b.toList, c ≠ 0) : Builtin.Bytes.find? b #[0] lo hi = none := by
  unfold Builtin.Bytes.find?
  rw [List.find?_eq_none]
  intro i _ hq
  have e := beq_iff_eq.mp hq
  have hm : (0 : UInt8) ∈ (b.extract i (i + 1)).toList := by
    rw [show b.extract i (i + 1) = #[0] from e]
    exact .head _
  rw [Array.toList_extract] at hm
  exact h 0 (List.mem_of_mem_drop (List.mem_of_mem_take hm)) rfl

open PySem.Spec PyProof.V Builtin in
theorem gives_find {b : Array UInt8} {t u : Tok} (h : ∀ c ∈ b.toList, c ≠ 0) :
    Gives (Builtin.«bytes.find» ⟨[.bytes b t, .bytes #[0] u], []⟩) (.int (-1)) := by
  refine .of_wp fun M A E s Q hq => ?_
  show wpAny M A (Builtin.Bytes.searchArgs .bytes "find" ⟨[.bytes b t, .bytes #[0] u], []⟩ >>= fun r => _) _ E s
  refine wpAny_bind ?_
  unfold Builtin.Bytes.searchArgs
  refine wpAny_bind (wpAny_of_eq (a := (Value.bytes b t, [Value.bytes #[0] u])) (by kernel_rfl) ?_)
  refine wpAny_bind (wpAny_of_eq (a := none) rfl ?_)
  refine wpAny_bind (wpAny_of_eq (a := none) rfl ?_)
  refine wpAny_bind (wpAny_of_eq KBy.buffer_eq ?_)
  dsimp only
  refine wpAny_bind (wpAny_pure ?_)
  refine wpAny_bind (wpAny_of_eq (a := b) rfl ?_)
  rcases hw : Builtin.Bytes.window b.size none none with ⟨lo, hi⟩
  dsimp only
  refine wpAny_pure ?_
  by_cases hc : hi - lo < ((#[0] : Array UInt8).size : Int)
  · rw [if_pos hc]
    dsimp only [Option.bind]
    exact wpAny_bind (wpAny_rule (wpAny_bind (wpAny_mkInt (wpAny_pure ⟨_, rfl, hq⟩))))
  · rw [if_neg hc]
    dsimp only [Option.bind]
    rw [if_neg Bool.false_ne_true, find_none h]
    exact wpAny_bind (wpAny_rule (wpAny_bind (wpAny_mkInt (wpAny_pure ⟨_, rfl, hq⟩))))
theorem find_b {prog : Program} {w : World} {A : Around} {E : Value → Shared → Prop} {s : Shared} {b : Array UInt8} {t u : Tok} {Q : Value → Shared → Prop} (h : ∀ c ∈ b.toList, c ≠ 0) (hQ : Q (.int (-1) s.toks) { s with toks := s.toks + 1 }) :
    wpAny (model prog w) A (call (.builtin "bytes.find") [.bytes b t, .bytes #[0] u]) Q E s :=
  call_gives slot_find (typeIs_bytes _ _ _) entry_find (args_find _ _) (gives_find h) hQ
theorem method_find {M : Model} {A : Around} {E : Value → Shared → Prop} {s : Shared} {b : Array UInt8} {t : Tok} {pl : Sem Bool} {Q : Value × List Value → Shared → Prop} (h : Q (.builtin "bytes.find", [.bytes b t]) s) : wpAny M A (getMethod (.bytes b t) "find" pl) Q E s := by
  with_reducible exact KBd.method_of (.bytes b t) (typeIs_bytes _ _ _) slot_find type_find KBd.noRef h
theorem method_join {M : Model} {A : Around} {E : Value → Shared → Prop} {s : Shared} {b : Array UInt8} {t : Tok} {pl : Sem Bool} {Q : Value × List Value → Shared → Prop} (h : Q (.builtin "bytes.join", [.bytes b t]) s) : wpAny M A (getMethod (.bytes b t) "join" pl) Q E s := by
  with_reducible exact KBd.method_of (.bytes b t) (typeIs_bytes _ _ _) slot_join type_join KBd.noRef h
end Fd

theorem FlushC20 : True ∧ True := by
  w_top off
  walk1 <;> trivial
def kt8 (a0 a1 a2 a3 a4 a5 a6 a7 : Tok) : Nat → Tok
  | 0 => a0 | 1 => a1 | 2 => a2 | 3 => a3 | 4 => a4 | 5 => a5 | 6 => a6 | _ => a7
section
variable {w : World} {p : Program} {loose : List Str} {mean : ExcName → Option Value} {mg mb : Str → Option Value} {kt : Nat → Tok} {tx pt : Array UInt8} {tt tp t60 td tl : Tok} {dep lev : Int} {sa la x dx : Addr} {news rest : List (Addr × Obj)}
local macro_rules | `(tactic| walk_at "ite") => `(tactic| (k_here; k_openite; k_spoken; first
  | (refine ite_pos (by (try simp only [beq_iff_eq, bne_iff_ne, ne_eq, decide_eq_true_eq, Bool.not_eq_true', decide_eq_false_iff_not, beq_eq_false_iff_ne, Bool.and_eq_true, Bool.or_eq_true]); first | assumption | omega) ?_; walk_say "MINE pos")
  | (refine ite_neg (by (try simp only [beq_iff_eq, bne_iff_ne, ne_eq, decide_eq_true_eq, Bool.not_eq_true', decide_eq_false_iff_not, beq_eq_false_iff_ne, Bool.and_eq_true, Bool.or_eq_true]); first | assumption | omega) ?_; walk_say "MINE neg")))
local macro_rules | `(tactic| k_mem) => `(tactic| first | exact List.Mem.head _ | ktr_member | (refine' List.mem_cons_of_mem _ ?_; k_mem))
local macro_rules | `(tactic| k_all) => `(tactic| assumption)
local macro_rules | `(tactic| walk_at "getMethod bytes") => `(tactic| (k_here; (with_reducible refine Fd.method_find ?_)))
local macro_rules | `(tactic| walk_at "call builtin:bytes.find") => `(tactic| (k_here; refine Fd.find_b (by assumption) ?_))

set_option maxHeartbeats 8000000 in
theorem matcher_ok (hb : ∀ c ∈ pt.toList, c ≠ 0) :
    Spec w p loose mean mg mb 253 [.bytes tx tt, .bytes pt tp] news 3 32 (fun news' r => ∃ x dx kt t60 td tl sa la rest', r = .ref x ∧ news' = MLed w kt tx tt pt tp t60 x dx 0 td 0 tl sa la rest' ∧ @LT.lt Nat _ dx x ∧ (∀ q ∈ news, @LT.lt Nat _ q.1 dx) ∧ news = rest') := by
  unfold Spec
  intro dp un gd cn cs a ccd cl outer A₀ base h₀ L m s Q E B F X N T hk hd hu hret
  k_dflt (refine' call_cls ?k1 ?k2 ?k3 ?k4 ?k5 ?k6 ?_; (case k1 => k_asm); (case k2 => k_asm); (case k3 => k_asm); (case k4 => k_is); (case k5 => k_is); (case k6 => k_is); k_whole; intro x' d' h' F' N' l1 l2; (try k_sweep))
  have hne : ∀ q ∈ news, q.1 ≠ d' := fun q hq => Nat.ne_of_lt (l1 q hq)
  k_lt2 l2
  k_dflt (refine' code_def ?k1 ?k2 ?k3 ?k4 ?k5 ?kA ?kF ?kK ?k6 ?k7 ?k8 ?k9 ?kB ?_ ?c2 ?c3 ?c4 ?c5; (case kA => exact rfl); (case kF => exact rfl); (case kK => assumption); (case k1 => k_asm); (case k2 => k_asm); (case k3 => k_asm); (case k4 => k_asm); (case k5 => k_asm); (case k6 => k_is); (case k7 => k_is); (case k8 => ktr_room); (case k9 => exact binds_K (by k_in) rfl (by k_is) rfl rfl rfl); (case c5 => decide); (case kB => exact locs rfl); (case c2 => exact rfl); (case c3 => exact rfl); (case c4 => exact rfl); k_whole; intro g' L' h' FG' F' N' B' X' T'; (try dsimp only); (try k_fold))
  k_steps
  exact hret _ _ _ _ (by k_asm) (dropN (dropN (by k_asm))) ⟨_, _, kt8 _ _ _ _ _ _ _ _, _, _, _, _, _, _, rfl, rfl, l2, l1, rfl⟩

end

theorem FlushC21 : True ∧ True := by
  w_top off
  walk1 <;> trivial
section
variable {w : World} {p : Program} {loose : List Str} {mean : ExcName → Option Value} {mg mb : Str → Option Value} {kt : Nat → Tok} {tx pt : Array UInt8} {tt tp t60 td tl : Tok} {dep lev : Int} {sa la x dx : Addr} {news rest : List (Addr × Obj)}
local macro_rules | `(tactic| walk_at "ite") => `(tactic| (k_here; k_openite; k_spoken; first
  | (refine ite_pos (by (try simp only [beq_iff_eq, bne_iff_ne, ne_eq, decide_eq_true_eq, Bool.not_eq_true', decide_eq_false_iff_not, beq_eq_false_iff_ne, Bool.and_eq_true, Bool.or_eq_true]); first | assumption | omega) ?_; walk_say "MINE pos")
  | (refine ite_neg (by (try simp only [beq_iff_eq, bne_iff_ne, ne_eq, decide_eq_true_eq, Bool.not_eq_true', decide_eq_false_iff_not, beq_eq_false_iff_ne, Bool.and_eq_true, Bool.or_eq_true]); first | assumption | omega) ?_; walk_say "MINE neg")))
local macro_rules | `(tactic| k_mem) => `(tactic| first | exact List.Mem.head _ | ktr_member | (refine' List.mem_cons_of_mem _ ?_; k_mem))
local macro_rules | `(tactic| k_all) => `(tactic| assumption)

theorem m0L {xk pk : List Int} {i : Int} {ti tj : Tok} (hp : KBw.bInts pt = pk) (hz : pk.length ≤ 1000) (ht : KBw.bInts tx = xk) (htz : xk.length ≤ 1000) (hab : ∀ c ∈ pk, c = 97 ∨ c = 98) (hi : 0 ≤ i) (hx : @LT.lt Nat _ dx x) (hr : ∀ q ∈ rest, q.1 ≠ dx) (h0 : 0 ≤ dep) (h1 : dep < 60) {rest0 : List (Addr × Obj)} (hs : ∀ q ∈ rest0, q ∈ rest) :
    Spec w p loose mean mg mb 161 [.ref x, .int i ti, .int 0 tj] (MLed w kt tx tt pt tp t60 x dx dep td lev tl sa la rest) 35 384 (MPost w kt tx tt pt tp t60 x dx dep (MRes rest0 (LitTo xk pk i pk.length) (i + pk.length))) := by
  refine (match_ok hx hr h0 h1 fun td' => (mh_lit hp hz ht htz hab hi (.head _) (.tail _ (.head _))).mono (fun n r h => ?_) (Nat.le_refl _) (Nat.le_refl _)).mono (fun _ _ h => h) (by omega) (by omega)
  exact ⟨td', lev, tl, sa, la, _, h.1.symm, hr, hs, h.2⟩

theorem searchL {xk pk : List Int} {i : Int} {ti tj : Tok} {anch : Bool} (hp : KBw.bInts pt = pk) (hz : pk.length ≤ 1000) (ht : KBw.bInts tx = xk) (htz : xk.length ≤ 1000) (hab : ∀ c ∈ pk, c = 97 ∨ c = 98) (hi : 0 ≤ i) (hx : @LT.lt Nat _ dx x) (hr : ∀ q ∈ rest, q.1 ≠ dx) :
    Spec w p loose mean mg mb 250 [.ref x, .int i ti, .int 0 tj, .bool anch] (MLed w kt tx tt pt tp t60 x dx dep td lev tl sa la rest) 37 416 (SRes w kt tx tt pt tp t60 x dx rest xk.length (fun s => LitTo xk pk s pk.length) (fun s => s + pk.length) i anch) :=
  search_ok ht htz hi hx hr fun s ts td tl sa la rest' a1 a2 a3 a4 a5 a6 a7 a8 => m0L hp hz ht htz hab a1 hx a4 (Int.le_refl 0) (by omega) (by subst a5; exact fun q hq => .tail _ (.tail _ hq))
theorem searchA {xk : List Int} {ti tj : Tok} (hp : KBw.bInts pt = pkA) (ht : KBw.bInts tx = xk) (htz : xk.length ≤ 1000) (hx : @LT.lt Nat _ dx x) (hr : ∀ q ∈ rest, q.1 ≠ dx) :
    Spec w p loose mean mg mb 250 [.ref x, .int 0 ti, .int 0 tj, .bool true] (MLed w kt tx tt pt tp t60 x dx dep td lev tl sa la rest) 37 416 (SRes w kt tx tt pt tp t60 x dx rest xk.length (fun _ => SqA xk) (fun _ => xk.length) 0 true) :=
  search_ok ht htz (Int.le_refl 0) hx hr fun s ts td tl sa la rest' a1 a2 a3 a4 a5 a6 a7 a8 => by
    obtain rfl := a3 rfl
    subst a5
    exact m0A hp ht htz hx a6 a7 hr a8 (Int.le_refl 0) (by omega)
theorem searchB {xk : List Int} {ti tj : Tok} (hp : KBw.bInts pt = pkB) (ht : KBw.bInts tx = xk) (htz : xk.length ≤ 1000) (hx : @LT.lt Nat _ dx x) (hr : ∀ q ∈ rest, q.1 ≠ dx) :
    Spec w p loose mean mg mb 250 [.ref x, .int 0 ti, .int 0 tj, .bool true] (MLed w kt tx tt pt tp t60 x dx dep td lev tl sa la rest) 37 416 (SRes w kt tx tt pt tp t60 x dx rest xk.length (fun _ => CuB xk) (fun _ => xk.length) 0 true) :=
  search_ok ht htz (Int.le_refl 0) hx hr fun s ts td tl sa la rest' a1 a2 a3 a4 a5 a6 a7 a8 => by
    obtain rfl := a3 rfl
    subst a5
    exact m0B hp ht htz hx a6 a7 hr a8 (Int.le_refl 0) (by omega)

local macro_rules | `(tactic| walk_at "call ref") => `(tactic| (k_here; k_dflt (
  refine' spec_use (matcher_ok ?hb) ?k1 ?k2 ?k3 ?k4 ?k5 ?kK ?kd ?ku ?_
  (case k1 => k_asm); (case k2 => k_asm); (case k3 => k_asm); (case k4 => k_asm); (case k5 => k_asm); (case kK => first | exact rfl | assumption)
  (case hb => assumption); (case kd => ktr_room); (case ku => ktr_units)
  intro r9 n9 h9 tk9 F9 N9 P9
  obtain ⟨x9, dx9, kt9, t609, td9, tl9, sa9, la9, rest9, e9, e9', hx9, hr9, e9''⟩ := P9
  subst e9 e9' e9''
  (try dsimp only); (try k_fold); (try k_sweep))))

theorem eq_none_tup {prog : Program} {w : World} {A : Around} {E : Value → Shared → Prop} {s : Shared} {a : Addr} {vs : Array Value} {h₀ : Heap} {L : Addr} {news : List (Addr × Obj)} {Q : Value → Shared → Prop} (N : News h₀ L s.heap news) (hm : (a, tupObj vs) ∈ news) (hu : A.units < cLine)
    (h : Q (.bool false) s) : wpAny (model prog w) A (compareOp .Eq .none (.ref a)) Q E s :=
  cmp_ofEq (SeqAt.RcAt.none_tuple (items := vs) ⟨_, N.get hm, rfl, _, rfl⟩ hu _ _ _ _ h)
local macro_rules | `(tactic| walk_at "compareOp Eq none ref") => `(tactic| (k_here; k_dflt (refine' eq_none_tup ?k1 ?k2 ?k3 ?_; (case k1 => k_asm); (case k2 => k_mem); (case k3 => ktr_units); k_whole)))

set_option maxHeartbeats 8000000 in
theorem law_is_ok {xk : List Int} {C : Prop} {e : Int} (hb : ∀ c ∈ pt.toList, c ≠ 0) (ht : KBw.bInts tx = xk) (htz : xk.length ≤ 1000)
    (H : ∀ kt t60 x dx td tl sa la ti tj, @LT.lt Nat _ dx x → (∀ q ∈ news, q.1 ≠ dx) → Spec w p loose mean mg mb 250 [.ref x, .int 0 ti, .int 0 tj, .bool true] (MLed w kt tx tt pt tp t60 x dx 0 td 0 tl sa la news) 37 416 (SRes w kt tx tt pt tp t60 x dx news xk.length (fun _ => C) (fun _ => e) 0 true)) :
    Spec w p loose mean mg mb 297 [.bytes tx tt, .bytes pt tp] news 41 448 (fun news' r => news = news' ∧ ∃ b : Bool, r = .bool b ∧ (b = true ↔ (C ∧ e = xk.length))) := by
  unfold Spec
  intro dp un gd cn cs a ccd cl outer A₀ base h₀ L m s Q E B F X N T hk hd hu hret
  (try dsimp only [MLed] at N)
  refine wpAny_call ?_
  k_dflt (refine' code_def ?k1 ?k2 ?k3 ?k4 ?k5 ?kA ?kF ?kK ?k6 ?k7 ?k8 ?k9 ?kB ?_ ?c2 ?c3 ?c4 ?c5; (case kA => exact rfl); (case kF => exact rfl); (case kK => assumption); (case k1 => k_asm); (case k2 => k_asm); (case k3 => k_asm); (case k4 => k_asm); (case k5 => k_asm); (case k6 => k_is); (case k7 => k_is); (case k8 => ktr_room); (case k9 => exact BindsTo.of_eq (show bindArgs _ _ = pure [(("word" : Str), _), (("pattern" : Str), _)] from rfl)); (case c5 => decide); (case kB => exact locs rfl); (case c2 => exact rfl); (case c3 => exact rfl); (case c4 => exact rfl); k_whole; intro g' L' h' FG' F' N' B' X' T'; (try dsimp only); (try k_fold))
  k_steps
  rename @LT.lt Nat _ _ _ => hx9
  rename (∀ q ∈ news, @LT.lt Nat _ q.1 _) => hr9
  k_dflt (refine' spec_use (H _ _ _ _ _ _ _ _ _ _ hx9 (fun q hq => Nat.ne_of_lt (hr9 q hq))) ?k1 ?k2 ?k3 ?k4 ?k5 ?kK ?kd ?ku ?_)
  (case k1 => k_asm); (case k2 => k_asm); (case k3 => k_asm); (case k4 => k_asm); (case k5 => k_asm); (case kK => first | exact rfl | assumption)
  (case kd => ktr_room); (case ku => ktr_units)
  intro r9 n9 h9 tk9 F9 N9 P9
  obtain ⟨dep9, td9, lev9, tl9, sa9, la9, (⟨s9, q9, t9, t9', g1, g2, hC, g4, g5, e9', hq9, e9⟩ | ⟨e9', g1, g2, e9⟩)⟩ := P9
  · obtain rfl := g5 rfl
    subst e9 e9'
    (try dsimp only); (try k_fold); (try k_sweep)
    dsimp only [MLed] at N9
    k_steps
    exact hret _ _ _ _ (by k_asm) (cb_drop (by k_asm) (fun _ h => .tail _ (.tail _ (.tail _ (.tail _ h))))) ⟨rfl, _, rfl, by rw [beq_iff_eq]; exact ⟨fun z => ⟨hC, z⟩, fun z => z.2⟩⟩
  · subst e9 e9'
    (try dsimp only); (try k_fold); (try k_sweep)
    dsimp only [MLed] at N9
    k_steps
    refine mdel ?_
    k_steps
    exact hret _ _ _ _ (by k_asm) (cb_drop (by k_asm) (fun _ h => .tail _ (.tail _ (.tail _ h)))) ⟨rfl, _, rfl, ⟨fun z => absurd z Bool.false_ne_true, fun z => absurd z.1 (g2 rfl (Int.natCast_nonneg _))⟩⟩

end

theorem FlushC22 : True ∧ True := by
  w_top off
  walk1 <;> trivial
def FEnd {σ : Type} (h₀ : Heap) (L : Addr) (s : Shared) (Led : σ → List (Addr × Obj)) (ps : σ → List (Str × Value)) (P : σ → Prop) (I : Addr) (oI : Obj) (s₂ : Shared) : Prop :=
  ∃ (c' : σ) (h' : Heap) (tk : Nat) (m' : Str → Option Value) (news' : List (Addr × Obj)), s₂ = { s with heap := h', toks := tk } ∧ Fr h₀ L h' m' ∧ News h₀ L h' news' ∧ (I, oI) ∈ news' ∧ (∀ p ∈ Led c', p ∈ news') ∧ (∀ p ∈ Led c', p.1 ≠ I) ∧ (∀ p ∈ ps c', m' p.1 = some p.2) ∧ P c'
def FPost {σ : Type} (h₀ : Heap) (L : Addr) (s : Shared) (Led : σ → List (Addr × Obj)) (ps : σ → List (Str × Value)) (P : σ → Prop) (I : Addr) (oI : Obj) (Q : Flow → Shared → Prop) (f : Flow) (s₂ : Shared) : Prop :=
  match f with
  | .ret v => Q (.ret v) s₂
  | .brk => Q .next s₂
  | _ => FEnd h₀ L s Led ps P I oI s₂
section
variable {σ : Type} {h₀ : Heap} {L : Addr} {s : Shared} {Led : σ → List (Addr × Obj)} {ps : σ → List (Str × Value)} {P : σ → Prop} {I : Addr} {oI : Obj} {Q : Flow → Shared → Prop} {v : Value} {s₂ : Shared}
theorem fpost_ret (h : Q (.ret v) s₂) : FPost h₀ L s Led ps P I oI Q (.ret v) s₂ := h
theorem fpost_brk (h : Q .next s₂) : FPost h₀ L s Led ps P I oI Q .brk s₂ := h
theorem fpost_next (h : FEnd h₀ L s Led ps P I oI s₂) : FPost h₀ L s Led ps P I oI Q .next s₂ := h
theorem fpost_cont (h : FEnd h₀ L s Led ps P I oI s₂) : FPost h₀ L s Led ps P I oI Q .cont s₂ := h
theorem f_end {h' : Heap} {tk : Nat} {m' : Str → Option Value} {news' : List (Addr × Obj)} (c' : σ)
    (F : Fr h₀ L h' m') (N : News h₀ L h' news') (ho : (I, oI) ∈ news') (hn : ∀ p ∈ Led c', p ∈ news') (hi : ∀ p ∈ Led c', p.1 ≠ I) (hk : ∀ p ∈ ps c', m' p.1 = some p.2) (hp : P c') :
    FEnd h₀ L s Led ps P I oI { s with heap := h', toks := tk } := ⟨c', h', tk, m', news', rfl, F, N, ho, hn, hi, hk, hp⟩
end
theorem f_range {prog : Program} {w : World} {A : Around} {E : Value → Shared → Prop} {s : Shared} {env : Env} {h₀ : Heap} {x : Str} {body : List Stmt} {Q : Flow → Shared → Prop} {σ : Type} {r : Addr} {a₀ b₀ : Int} {t₀ u₀ v₀ : Tok} {n : Nat} {m₀ : Str → Option Value} {news₀ : List (Addr × Obj)}
    (Led : σ → List (Addr × Obj)) (ps : σ → List (Str × Value)) (P : Nat → σ → Prop) (c₀ : σ)
    (hh : A.handled = none) (hr : IsRange s.heap r a₀ b₀ 1 t₀ u₀ v₀) (hsmall : Builtin.Range.small a₀ b₀ 1 = true) (hn : Builtin.Range.rangeSize a₀ b₀ 1 = (n : Int)) (F : Fr h₀ env.locals s.heap m₀) (N : News h₀ env.locals s.heap news₀) (hl : ∀ p ∈ Led c₀, p ∈ news₀) (hk : ∀ p ∈ ps c₀, m₀ p.1 = some p.2) (hp : P 0 c₀)
    (turn : ∀ (c : σ) (i : Nat) t (u : Str → Option Value) h tk (I : Addr) (oI : Obj), i < n → (∀ p ∈ news₀, @LT.lt Nat _ p.1 I) → (∀ p ∈ Led c, p.1 ≠ I) → P i c →
      Fr h₀ env.locals h (fun y => if y = x then some (.int (a₀ + i) t) else kstB u (ps c) y) → News h₀ env.locals h ((I, oI) :: Led c) →
      wpAny (model prog w) A (execs body env) (FPost h₀ env.locals { s with heap := h, toks := tk } Led ps (P (i + 1)) I oI Q) E { s with heap := h, toks := tk })
    (done : ∀ (c : σ) (u : Str → Option Value) h tk, P n c → Fr h₀ env.locals h (kstB u (ps c)) → News h₀ env.locals h (Led c) → Q .next { s with heap := h, toks := tk }) :
    wpAny (model prog w) A (pyIter (.ref r)) (fun it s₂ => LoopAtV prog w A h₀ env x body Q E it s₂) E s := by
  refine wpAny_pyIter_range hr hsmall ?_
  have W : Walks prog w A s.heap.objs.size [s.heap.objs.size] [s.heap.objs.size] n (fun i v => i < n ∧ ∃ t, v = .int (a₀ + i * 1) t)
      (fun i h => IsRangeIter h s.heap.objs.size (a₀ + (i : Nat) * 1) ((n : Int) - (i : Nat)) 1) := (Walks.range hh _ a₀ 1 n).bound
  refine ⟨s.heap.objs.size, _, _, n, _, _, m₀, Led c₀, fun i m nx => ∃ c, nx = Led c ∧ (∀ p ∈ ps c, m p.1 = some p.2) ∧ P i c, rfl, W, ?_, ?_, ?_, (by show IsRangeIter _ _ _ _ _; rw [hn]; simpa using Heap.get?_push_size _ rfl), F.push _, (fun p hp => ⟨Heap.get?_push_of_some _ (N p (hl p hp)).1, (N p (hl p hp)).2⟩), ⟨c₀, rfl, hk, hp⟩, ?_, ?_⟩
  · intro hm
    exact absurd F.ns.lt ((List.mem_singleton.mp hm) ▸ Nat.lt_irrefl _)
  · intro b hb
    rw [List.mem_singleton.mp hb]
    exact next_is_new F
  · intro p hp hI
    exact absurd (Heap.lt_size (N p (hl p hp)).1) ((List.mem_singleton.mp hI) ▸ Nat.lt_irrefl _)
  · rintro i v m₁ news₁ s₁ own ⟨hh', tk', rfl⟩ hin ⟨_, t, rfl⟩ ⟨c, rfl, h1, hp'⟩ hoff hfp hget hall hst F₁ N₁
    have e1 : a₀ + (i : Int) * 1 = a₀ + (i : Int) := by omega
    rw [e1] at F₁
    have hst' : IsRangeIter hh' s.heap.objs.size (a₀ + ((i + 1 : Nat) : Int) * 1) ((n : Int) - ((i + 1 : Nat) : Int)) 1 := hst
    obtain ⟨oI, hoI⟩ : ∃ o, hh'.get? s.heap.objs.size = some o := ⟨_, hst'⟩
    have hmem : (s.heap.objs.size, oI) ∈ own := hall _ (.head _) (next_is_new F) oI hoI
    have em : kstB m₁ (ps c) = m₁ := by
      funext y
      exact kstB_eq h1 fun _ => rfl
    refine wpAny_mono (turn c i t m₁ hh' tk' s.heap.objs.size oI hin (fun p hp => Heap.lt_size (N p hp).1) (fun p hp q => hoff p hp (by rw [q]; exact .head _)) hp' (by rw [em]; exact F₁) (fun p hp => ?_)) (fun f s₂ p => ?_) fun _ _ e => e
    · rcases List.mem_cons.mp hp with rfl | hp
      · exact N₁ _ (List.mem_append_left _ hmem)
      · exact N₁ _ (List.mem_append_right _ hp)
    · have fin : FEnd h₀ env.locals { s with heap := hh', toks := tk' } Led ps (P (i + 1)) s.heap.objs.size oI s₂ → LoopStepU h₀ env.locals [s.heap.objs.size] own (fun m nx => ∃ c, nx = Led c ∧ (∀ p ∈ ps c, m p.1 = some p.2) ∧ P (i + 1) c) { s with heap := hh', toks := tk' } .next s₂ := by
        rintro ⟨c', h', tk, m', news', e, F', N', ho, hn', hi', hk', hp9⟩
        refine ⟨rfl, h', tk, m', Led c', e, F', fun p hp => ?_, fun p hp q => hi' p hp (List.mem_singleton.mp q), c', rfl, hk', hp9⟩
        rcases List.mem_append.mp hp with h3 | h3
        · have e2 : p.1 = s.heap.objs.size := List.mem_singleton.mp (hfp p h3)
          have e3 := hget p h3
          rw [e2] at e3
          have e4 : p = (s.heap.objs.size, oI) := Prod.ext e2 (Option.some.inj (e3.symm.trans hoI))
          rw [e4]
          exact N' _ ho
        · exact N' p (hn' p h3)
      cases f with
      | ret v => exact .ret p
      | brk => exact .brk p
      | next => exact .next (fin p)
      | cont => exact .cont (fin p)
  · rintro h' tk m' news' F' N' _ ⟨c, rfl, hk', hp9⟩
    have em : kstB m' (ps c) = m' := by
      funext y
      exact kstB_eq hk' fun _ => rfl
    exact done c m' h' tk hp9 (by rw [em]; exact F') N'

theorem FlushC23 : True ∧ True := by
  w_top off
  walk1 <;> trivial
def litB (xk pk : List Int) (q : Nat) : Bool := decide (q + pk.length ≤ xk.length) && ((xk.drop q).take pk.length == pk)
theorem litB_iff {xk pk : List Int} {q : Nat} (hpk : 0 < pk.length) : litB xk pk q = true ↔ LitTo xk pk q pk.length := by
  unfold litB LitTo
  rw [Bool.and_eq_true, decide_eq_true_eq, beq_iff_eq]
  constructor
  · rintro ⟨h1, h2⟩ j hj
    refine ⟨by omega, ?_⟩
    have e : ((q : Int) + j).toNat = q + j := by omega
    rw [e]
    conv => lhs; rw [← h2]
    rw [List.getD_eq_getElem?_getD, List.getD_eq_getElem?_getD, List.getElem?_take, if_pos hj, List.getElem?_drop]
  · intro h
    have h1 := (h (pk.length - 1) (by omega)).1
    refine ⟨by omega, ?_⟩
    apply List.ext_getElem?
    intro j
    rw [List.getElem?_take]
    by_cases hj : j < pk.length
    · rw [if_pos hj, List.getElem?_drop]
      have h2 := (h j hj).2
      have e : ((q : Int) + j).toNat = q + j := by omega
      rw [e, List.getD_eq_getElem?_getD, List.getD_eq_getElem?_getD, List.getElem?_eq_getElem hj, List.getElem?_eq_getElem (by omega)] at h2
      rw [List.getElem?_eq_getElem hj, List.getElem?_eq_getElem (by omega)]
      exact congrArg some h2.symm
    · rw [if_neg hj, List.getElem?_eq_none (by omega)]
def spotsTo (xk pk : List Int) (a : Nat) : List Int := ((List.range a).filter (litB xk pk)).map Int.ofNat
theorem spots_stay {xk pk : List Int} {a : Nat} : ∀ k, (∀ q, a ≤ q → q < a + k → litB xk pk q = false) → spotsTo xk pk (a + k) = spotsTo xk pk a
  | 0, _ => rfl
  | k + 1, h => by
    rw [← spots_stay k fun q h1 h2 => h q h1 (by omega)]
    unfold spotsTo
    rw [← Nat.add_assoc, List.range_succ, List.filter_append, List.filter_cons, if_neg (by rw [h (a + k) (by omega) (by omega)]; exact Bool.false_ne_true), List.filter_nil, List.append_nil]
theorem spots_next {xk pk : List Int} {a b : Nat} (hab : a ≤ b) (h : ∀ q, a ≤ q → q < b → litB xk pk q = false) (hb : litB xk pk b = true) : spotsTo xk pk (b + 1) = spotsTo xk pk a ++ [(b : Int)] := by
  have e := spots_stay (xk := xk) (pk := pk) (a := a) (b - a) (fun q h1 h2 => h q h1 (by omega))
  rw [show a + (b - a) = b by omega] at e
  rw [← e]
  unfold spotsTo
  rw [List.range_succ, List.filter_append, List.filter_cons, if_pos hb, List.filter_nil, List.map_append]
  rfl
theorem spots_none {xk pk : List Int} {a : Int} (hpk : 0 < pk.length) (h0 : 0 ≤ a) (h1 : a ≤ xk.length + 1) (h : ∀ s, a ≤ s → s ≤ xk.length → ¬ LitTo xk pk s pk.length) : spotsTo xk pk (xk.length + 1) = spotsTo xk pk a.toNat := by
  have e := spots_stay (xk := xk) (pk := pk) (a := a.toNat) (xk.length + 1 - a.toNat) (fun q h2 h3 => by
    cases hq : litB xk pk q with
    | false => rfl
    | true => exact absurd ((litB_iff hpk).mp hq) (h q (by omega) (by omega)))
  rw [show a.toNat + (xk.length + 1 - a.toNat) = xk.length + 1 by omega] at e
  exact e
theorem spots_one {xk pk : List Int} {a b : Int} (hpk : 0 < pk.length) (h0 : 0 ≤ a) (hab : a ≤ b) (hb : LitTo xk pk b pk.length) (h : ∀ s, a ≤ s → s < b → ¬ LitTo xk pk s pk.length) : spotsTo xk pk (b + 1).toNat = spotsTo xk pk a.toNat ++ [b] := by
  have e := spots_next (xk := xk) (pk := pk) (a := a.toNat) (b := b.toNat) (by omega) (fun q h2 h3 => by
    cases hq : litB xk pk q with
    | false => rfl
    | true => exact absurd ((litB_iff hpk).mp hq) (h q (by omega) (by omega))) ((litB_iff hpk).mpr (by rw [Int.toNat_of_nonneg (by omega)]; exact hb))
  rw [show (b + 1).toNat = b.toNat + 1 by omega, e, Int.toNat_of_nonneg (by omega)]
theorem spots_len (xk pk : List Int) (a : Nat) : (spotsTo xk pk a).length ≤ a := by
  unfold spotsTo
  rw [List.length_map]
  exact Nat.le_trans (List.length_filter_le _ _) (by rw [List.length_range]; exact Nat.le_refl _)
theorem spots_I {a b c : Addr × Obj} {r : List (Addr × Obj)} {I : Addr} (h1 : a.1 ≠ I) (h2 : b.1 ≠ I) (h3 : c.1 ≠ I) (h4 : ∀ q ∈ r, q.1 ≠ I) : ∀ q ∈ a :: b :: c :: r, q.1 ≠ I := by
  intro q hq
  simp only [List.mem_cons] at hq
  rcases hq with rfl | rfl | rfl | hq
  · exact h1
  · exact h2
  · exact h3
  · exact h4 q hq
theorem ints_snoc {vs : List Value} {ns : List Int} {n : Int} {t : Tok} (h : IntsAre vs ns) : IntsAre (vs ++ [.int n t]) (ns ++ [n]) := h.append (.cons _ _ .nil)
theorem perm_i {h₀ h : Heap} {L : Addr} {a b c : Addr × Obj} {r : List (Addr × Obj)} (N : News h₀ L h (a :: b :: c :: r)) : News h₀ L h (b :: c :: a :: r) := by
  intro p hp
  simp only [List.mem_cons] at hp
  refine N p ?_
  simp only [List.mem_cons]
  rcases hp with h | h | h | h <;> simp [h]
theorem spots_off {a b : Addr × Obj} {r : List (Addr × Obj)} {dx : Addr} (h1 : a.1 ≠ dx) (h2 : b.1 ≠ dx) (h3 : ∀ q ∈ r, q.1 ≠ dx) : ∀ q ∈ a :: b :: r, q.1 ≠ dx := by
  intro q hq
  rcases List.mem_cons.mp hq with rfl | hq
  · exact h1
  · rcases List.mem_cons.mp hq with rfl | hq
    · exact h2
    · exact h3 q hq
theorem pick_spots {a b c d : Addr × Obj} {r : List (Addr × Obj)} : ∀ p ∈ a :: b :: d :: r, p ∈ a :: b :: c :: d :: r := by
  intro p hp
  simp only [List.mem_cons] at hp ⊢
  rcases hp with h | h | h | h <;> simp [h]
section
variable {w : World} {p : Program} {loose : List Str} {mean : ExcName → Option Value} {mg mb : Str → Option Value} {kt : Nat → Tok} {tx pt : Array UInt8} {tt tp t60 td tl : Tok} {dep lev : Int} {sa la x dx : Addr} {news rest : List (Addr × Obj)}
local macro_rules | `(tactic| walk_at "ite") => `(tactic| (k_here; k_openite; k_spoken; first
  | (refine ite_pos (by (try simp only [beq_iff_eq, bne_iff_ne, ne_eq, decide_eq_true_eq, Bool.not_eq_true', decide_eq_false_iff_not, beq_eq_false_iff_ne, Bool.and_eq_true, Bool.or_eq_true]); first | assumption | omega) ?_; walk_say "MINE pos")
  | (refine ite_neg (by (try simp only [beq_iff_eq, bne_iff_ne, ne_eq, decide_eq_true_eq, Bool.not_eq_true', decide_eq_false_iff_not, beq_eq_false_iff_ne, Bool.and_eq_true, Bool.or_eq_true]); first | assumption | omega) ?_; walk_say "MINE neg")))
local macro_rules | `(tactic| k_mem) => `(tactic| first | exact List.Mem.head _ | ktr_member | (refine' List.mem_cons_of_mem _ ?_; k_mem))
local macro_rules | `(tactic| walk_at "FPost") => `(tactic| (first | with_reducible refine fpost_ret ?_ | with_reducible refine fpost_next ?_ | with_reducible refine fpost_cont ?_ | with_reducible refine fpost_brk ?_ | dsimp only [FPost]))
local macro_rules | `(tactic| walk_at "subscriptTail") => `(tactic| (k_here; (with_reducible show wpAny _ _ (subscriptTail _ _ (Value.ref _) (Value.int _ _)) _ _ _); (with_unfolding_all refine' item_litK ?k1 ?k2 ?k3 ?k4 ?_ ?k6; (case k1 => exact News.isList (by k_asm) (by k_mem)); (case k2 => decide); (case k3 => decide); (case k4 => rfl); (case k6 => with_unfolding_all rfl); k_whole)))
local macro_rules | `(tactic| walk_at "pyIter ref") => `(tactic| (k_here; refine stop_ ?_))
local macro_rules | `(tactic| walk_at "newList") => `(tactic| (k_here; refine stop_ ?_))

set_option maxHeartbeats 8000000 in
theorem law_spots_ok {xk pk : List Int} (hb : ∀ c ∈ pt.toList, c ≠ 0) (hp : KBw.bInts pt = pk) (hz : pk.length ≤ 1000) (hpk : 0 < pk.length) (hab : ∀ c ∈ pk, c = 97 ∨ c = 98) (ht : KBw.bInts tx = xk) (htz : xk.length ≤ 500) :
    Spec w p loose mean mg mb 290 [.bytes tx tt, .bytes pt tp] news 41 448 (fun news' r => ∃ l vs, r = .ref l ∧ news' = (l, W.listOf (List.toArray vs) 0) :: news ∧ IntsAre vs (spotsTo xk pk (xk.length + 1))) := by
  unfold Spec
  intro dp un gd cn cs a ccd cl outer A₀ base h₀ L m s Q E B F X N T hk hd hu hret
  (try dsimp only [MLed] at N)
  refine wpAny_call ?_
  k_dflt (refine' code_def ?k1 ?k2 ?k3 ?k4 ?k5 ?kA ?kF ?kK ?k6 ?k7 ?k8 ?k9 ?kB ?_ ?c2 ?c3 ?c4 ?c5; (case kA => exact rfl); (case kF => exact rfl); (case kK => assumption); (case k1 => k_asm); (case k2 => k_asm); (case k3 => k_asm); (case k4 => k_asm); (case k5 => k_asm); (case k6 => k_is); (case k7 => k_is); (case k8 => ktr_room); (case k9 => exact BindsTo.of_eq (show bindArgs _ _ = pure [(("text" : Str), _), (("word" : Str), _)] from rfl)); (case c5 => decide); (case kB => exact locs rfl); (case c2 => exact rfl); (case c3 => exact rfl); (case c4 => exact rfl); k_whole; intro g' L' h' FG' F' N' B' X' T'; (try dsimp only); (try k_fold))
  k_steps
  refine Stop.go ?_
  k_dflt (refine' newList_K ?k1 ?k2 ?_; (case k1 => k_asm); (case k2 => k_asm); k_whole)
  intro fa h1 F1 N1 l1
  (try k_sweep)
  k_steps
  k_dflt (refine' spec_use (matcher_ok hb) ?k1 ?k2 ?k3 ?k4 ?k5 ?kK ?kd ?ku ?_)
  (case k1 => k_asm); (case k2 => k_asm); (case k3 => k_asm); (case k4 => k_asm); (case k5 => k_asm); (case kK => first | exact rfl | assumption)
  (case kd => ktr_room); (case ku => ktr_units)
  intro r9 n9 h9 tk9 F9 N9 P9
  obtain ⟨x, dx, kt, t60, td, tl, sa, la, rest9, e9, e9', hx, hr9, e9''⟩ := P9
  subst e9 e9' e9''
  (try dsimp only); (try k_fold); (try k_sweep)
  k_steps
  refine Stop.go ?_
  rename Fr _ _ _ _ => F2
  rename News _ _ _ _ => N2
  have hfd : @LT.lt Nat _ fa dx := hr9 _ (.tail _ (.head _))
  have hnd : ∀ q ∈ news, @LT.lt Nat _ q.1 dx := fun q hq => hr9 q (.tail _ (.tail _ hq))
  rename IsRange _ _ _ _ _ _ _ _ => R2
  refine' f_range (n := xk.length + 1) (σ := Addr × List Value × Int × Tok × Int × Tok × Int × Tok × Addr × Addr)
    (fun c => (x, instObj 253 dx) :: (dx, dictOf (mEs w.params kt tx tt pt tp t60 c.2.2.2.2.1 c.2.2.2.2.2.1 c.2.2.2.2.2.2.1 c.2.2.2.2.2.2.2.1 c.2.2.2.2.2.2.2.2.1 c.2.2.2.2.2.2.2.2.2) 8) :: (c.1, W.listOf c.2.1.toArray 0) :: news)
    (fun c => [(("found" : Str), Value.ref c.1), (("at" : Str), Value.int c.2.2.1 c.2.2.2.1), (("matcher" : Str), Value.ref x)])
    (fun i c => 0 ≤ c.2.2.1 ∧ i ≤ c.2.2.1 ∧ c.2.2.1 ≤ xk.length + 1 ∧ IntsAre c.2.1 (spotsTo xk pk c.2.2.1.toNat) ∧ c.1 ≠ dx) (fa, [], 0, _, 0, td, 0, tl, sa, la) ?hh R2 ?hs (rangeSize_nat 0 (xk.length + 1)) F2 N2 ?hl ?hk ?hp ?_ ?_
  case hh => exact rfl
  case hk => kst_all
  case hs => exact small_one (by omega) (by omega) (by omega) (by omega)
  case hl => exact pick_spots
  case hp => exact ⟨Int.le_refl 0, Int.le_refl 0, by dsimp only; omega, .nil, neN (by dsimp only; omega)⟩
  · rintro ⟨fa, vs, a, ta, dep1, td1, lev1, tl1, sa1, la1⟩ i ti u h tk I oI hi hI hoff ⟨ha0, ha1, ha2, hv, hfdx⟩ F3 N3
    dsimp only at ha0 ha1 ha2 hv hfdx N3 hoff F3 hI
    dsimp only
    k_steps
    have hdI : @LT.lt Nat _ dx I := hI _ (.tail _ (.head _))
    k_dflt (refine' spec_use (searchL (rest := (I, oI) :: (fa, W.listOf vs.toArray 0) :: news) (i := a) (anch := false) hp hz ht (by omega) hab ha0 hx ?hr) ?k1 ?k2 ?k3 ?k4 ?k5 ?kK ?kd ?ku ?_)
    (case hr => exact spots_off (Nat.ne_of_gt hdI) hfdx fun q hq => Nat.ne_of_lt (hnd q hq))
    (case k1 => k_asm); (case k2 => k_asm); (case k3 => k_asm); (case k4 => exact perm_i (by k_asm)); (case k5 => k_asm); (case kK => first | exact rfl | assumption)
    (case kd => ktr_room); (case ku => ktr_units)
    intro r9 n9 h9 tk9 F9 N9 P9
    obtain ⟨dep9, td9, lev9, tl9, sa9, la9, (⟨s9, q9, t9, t9', g1, g2, hC, g4, g5, e9', hq9, e9⟩ | ⟨e9', g1, g2, e9⟩)⟩ := P9
    · subst e9 e9'
      (try dsimp only); (try k_fold); (try k_sweep)
      dsimp only [MLed] at N9
      k_steps
      refine Stop.go ?_
      k_dflt (refine' newList_K ?k1 ?k2 ?_; (case k1 => k_asm); (case k2 => k_asm); k_whole)
      intro fb hb2 F4 N4 l4
      (try k_sweep)
      k_steps
      k_dflt (refine' kmk_add_lit (zs := vs ++ [Value.int s9 t9]) ?F N4 (News.isList N4 (by k_mem)) (News.isList N4 (.head _)) (by simp) ?_ ?z; (case F => k_asm))
      (case z => (have := hv.length; have := spots_len xk pk a.toNat; simp only [List.length_cons, List.length_nil, sizeLine_eq]; omega))
      intro fc hc2 F5 N5 l5
      (try k_sweep)
      k_steps
      have hIfc : @LT.lt Nat _ I fc := l5 (I, oI) (by simp)
      have hdfc : @LT.lt Nat _ dx fc := l5 (dx, dictOf (mEs w.params kt tx tt pt tp t60 dep9 td9 lev9 tl9 sa9 la9) 8) (by simp)
      exact f_end (fc, vs ++ [Value.int s9 t9], s9 + 1, _, dep9, td9, lev9, tl9, sa9, la9) (by k_asm) (by k_asm) (by simp) (by
          intro p hp
          simp only [List.mem_cons] at hp ⊢
          rcases hp with h | h | h | h <;> simp [h]) (spots_I (hoff _ (.head _)) (Nat.ne_of_lt hdI) (Nat.ne_of_gt hIfc) fun q hq => hoff q (.tail _ (.tail _ (.tail _ hq)))) (by kst_all)
        (by exact ⟨by dsimp only; omega, by dsimp only; omega, by dsimp only; omega, by dsimp only; rw [spots_one hpk ha0 g1 hC g4]; exact ints_snoc hv, Nat.ne_of_gt hdfc⟩)
    · subst e9 e9'
      (try dsimp only); (try k_fold); (try k_sweep)
      dsimp only [MLed] at N9
      k_steps
      exact hret _ _ _ _ (by k_asm) (dropN (dropN (dropN (by k_asm)))) ⟨_, _, rfl, rfl, by rw [spots_none hpk ha0 ha2 (g1 rfl)]; exact hv⟩
  · rintro ⟨fa, vs, a, ta, dep1, td1, lev1, tl1, sa1, la1⟩ u h tk ⟨ha0, ha1, ha2, hv, hfdx⟩ F3 N3
    dsimp only at ha0 ha1 ha2 hv hfdx N3 F3
    dsimp only
    k_steps
    exact hret _ _ _ _ (by k_asm) (dropN (dropN (by k_asm))) ⟨_, _, rfl, rfl, by rw [show xk.length + 1 = a.toNat by omega]; exact hv⟩

end

theorem FlushC24 : True ∧ True := by
  w_top off
  walk1 <;> trivial
def rootP (xk : List Int) (k : Nat) : Bool := xk.length % k == 0 && (List.replicate (xk.length / k) (xk.take k)).flatten == xk
theorem root_more {xk : List Int} {i : Nat} (h : ∀ j, 1 ≤ j → j ≤ i → rootP xk j = false) (h1 : rootP xk (i + 1) = false) : ∀ j, 1 ≤ j → j ≤ i + 1 → rootP xk j = false := by
  intro j h2 h3
  rcases Nat.lt_or_ge j (i + 1) with h4 | h4
  · exact h j h2 (by omega)
  · have e : j = i + 1 := by omega
    rw [e]; exact h1
theorem root_whole {xk : List Int} (h : 0 < xk.length) : rootP xk xk.length = true := by
  unfold rootP
  rw [Nat.mod_self, Nat.div_self h, List.take_length]
  simp
theorem mul_K {prog : Program} {w : World} {A : Around} {E : Value → Shared → Prop} {s : Shared} {b : Array UInt8} {ks : List Int} {n : Int} {t u : Tok} {Q : Value → Shared → Prop} (hk : KBw.bInts b = ks) (h0 : 0 < ks.length) (hs : ks.length ≤ 16) (hlo : 0 ≤ n) (hn : n ≤ 1000)
    (h : ∀ (c : Array UInt8) t' k, KBw.bInts c = (List.replicate n.toNat ks).flatten → Q (.bytes c t') { s with toks := k }) : wpAny (model prog w) A (binaryOp .Mult (.bytes b t) (.int n u)) Q E s := by
  subst hk
  rw [KBw.ints_length] at h0 hs
  refine bytes_mul_any (b := b.toList) (fun e => ?_) (by omega) (by omega) (by simpa using hs) fun t' k => h _ t' k ?_
  · rw [← Array.length_toList, e] at h0
    exact absurd h0 (Nat.lt_irrefl _)
  · show ((List.replicate n.toNat b.toList).flatten).map _ = _
    rw [List.map_flatten, List.map_replicate]
    rfl
theorem fmod_nat (n k : Nat) : Int.fmod (n : Int) (1 + (k : Int)) = ((n % (k + 1) : Nat) : Int) := by
  rw [show (1 : Int) + (k : Int) = ((k + 1 : Nat) : Int) by omega]
  rw [Int.fmod_eq_emod_of_nonneg _ (Int.natCast_nonneg _)]; rfl
theorem fdiv_nat (n k : Nat) : Int.fdiv (n : Int) (1 + (k : Int)) = ((n / (k + 1) : Nat) : Int) := by
  rw [show (1 : Int) + (k : Int) = ((k + 1 : Nat) : Int) by omega]
  rw [Int.fdiv_eq_ediv_of_nonneg _ (Int.natCast_nonneg _)]; rfl
section
variable {w : World} {p : Program} {loose : List Str} {mean : ExcName → Option Value} {mg mb : Str → Option Value} {kt : Nat → Tok} {tx pt : Array UInt8} {tt tp t60 td tl : Tok} {dep lev : Int} {sa la x dx : Addr} {news rest : List (Addr × Obj)}
local macro_rules | `(tactic| walk_at "ite") => `(tactic| (k_here; k_openite; k_spoken; first
  | (refine ite_pos (by (try simp only [beq_iff_eq, bne_iff_ne, ne_eq, decide_eq_true_eq, Bool.not_eq_true', decide_eq_false_iff_not, beq_eq_false_iff_ne, Bool.and_eq_true, Bool.or_eq_true]); first | assumption | omega) ?_; walk_say "MINE pos")
  | (refine ite_neg (by (try simp only [beq_iff_eq, bne_iff_ne, ne_eq, decide_eq_true_eq, Bool.not_eq_true', decide_eq_false_iff_not, beq_eq_false_iff_ne, Bool.and_eq_true, Bool.or_eq_true]); first | assumption | omega) ?_; walk_say "MINE neg")))
local macro_rules | `(tactic| k_mem) => `(tactic| first | exact List.Mem.head _ | ktr_member | (refine' List.mem_cons_of_mem _ ?_; k_mem))
local macro_rules | `(tactic| walk_at "FPost") => `(tactic| (first | with_reducible refine fpost_ret ?_ | with_reducible refine fpost_next ?_ | with_reducible refine fpost_cont ?_ | with_reducible refine fpost_brk ?_ | dsimp only [FPost]))
local macro_rules | `(tactic| walk_at "binaryOp Mult bytes int") => `(tactic| (k_here; refine stop_ ?_))
local macro_rules | `(tactic| walk_at "pyIter ref") => `(tactic| (k_here; refine stop_ ?_))

set_option maxHeartbeats 8000000 in
theorem law_root_ok {xk : List Int} (ht : KBw.bInts tx = xk) (hn1 : 0 < xk.length) (htz : xk.length ≤ 16) :
    Spec w p loose mean mg mb 283 [.bytes tx tt] news 2 32 (fun news' r => news = news' ∧ ∃ b t k, r = .bytes b t ∧ KBw.bInts b = xk.take k ∧ 1 ≤ k ∧ k ≤ xk.length ∧ rootP xk k = true ∧ ∀ j, 1 ≤ j → j < k → rootP xk j = false) := by
  unfold Spec
  intro dp un gd cn cs a ccd cl outer A₀ base h₀ L m s Q E B F X N T hk hd hu hret
  (try dsimp only [MLed] at N)
  refine wpAny_call ?_
  k_dflt (refine' code_def ?k1 ?k2 ?k3 ?k4 ?k5 ?kA ?kF ?kK ?k6 ?k7 ?k8 ?k9 ?kB ?_ ?c2 ?c3 ?c4 ?c5; (case kA => exact rfl); (case kF => exact rfl); (case kK => assumption); (case k1 => k_asm); (case k2 => k_asm); (case k3 => k_asm); (case k4 => k_asm); (case k5 => k_asm); (case k6 => k_is); (case k7 => k_is); (case k8 => ktr_room); (case k9 => exact BindsTo.of_eq (show bindArgs _ _ = pure [(("word" : Str), _)] from rfl)); (case c5 => decide); (case kB => exact locs rfl); (case c2 => exact rfl); (case c3 => exact rfl); (case c4 => exact rfl); k_whole; intro g' L' h' FG' F' N' B' X' T'; (try dsimp only); (try k_fold))
  k_steps
  refine Stop.go ?_
  rename Fr _ _ _ _ => F2
  rename News _ _ _ _ => N2
  rename IsRange _ _ _ _ _ _ _ _ => R2
  refine' f_range (n := xk.length) (σ := Unit) (fun _ => news) (fun _ => [(("word" : Str), Value.bytes tx tt)]) (fun i _ => ∀ j, 1 ≤ j → j ≤ i → rootP xk j = false) () ?hh R2 ?hs ?hn F2 N2 (fun _ h => h) ?hk ?hp ?_ ?_
  case hh => exact rfl
  case hk => kst_all
  case hs => exact small_one (by omega) (by omega) (by omega) (by omega)
  case hn => exact (rangeSize_nat _ _).trans (by omega)
  case hp => exact fun j h1 h2 => by omega
  · rintro ⟨⟩ i ti u h tk I oI hi hI hoff hP F3 N3
    (try dsimp only at F3 N3)
    have hi0 : (0 : Int) ≤ i := Int.natCast_nonneg i
    dsimp only
    have em := fmod_nat xk.length i
    have ed := fdiv_nat xk.length i
    have ec : clipAt xk.length (1 + (i : Int)) = i + 1 := by
      rw [show (1 : Int) + (i : Int) = ((i + 1 : Nat) : Int) by omega]
      exact (clipAt_nat xk.length (i + 1)).trans (by omega)
    k_steps
    · refine Stop.go ?_
      rename (KBw.bInts (KBy.picked _ _ _) = _) => hkb
      rw [ec] at hkb
      have hle : xk.length / (i + 1) ≤ xk.length := Nat.div_le_self _ _
      refine mul_K hkb (by rw [List.length_take]; omega) (by rw [List.length_take]; omega) (by rw [ed]; exact Int.natCast_nonneg _) (by rw [ed]; exact Int.le_trans (Int.ofNat_le.mpr hle) (by omega)) ?_
      intro c9 t9 k9 hc9
      rw [ed, Int.toNat_natCast] at hc9
      have e0 : xk.length % (i + 1) = 0 := by omega
      have hq := bytes_beq hc9 ht
      k_steps
      · exact hret _ _ _ _ (by k_asm) (dropN (by k_asm)) ⟨rfl, _, _, i + 1, rfl, hkb, by omega, by omega, by unfold rootP; rw [beq_iff_eq.mpr e0, beq_iff_eq.mpr (hq.mp (by assumption))]; rfl, fun j h1 h2 => hP j h1 (by omega)⟩
      · exact f_end () (by k_asm) (by k_asm) (.head _) (fun _ hp => .tail _ hp) hoff (by kst_all) (root_more hP (by
          unfold rootP
          rw [beq_iff_eq.mpr e0, beq_eq_false_iff_ne.mpr fun z => absurd (hq.mpr z) (by rename (_ == _) = false => hz; rw [hz]; exact Bool.false_ne_true)]; rfl))
    · have e0 : xk.length % (i + 1) ≠ 0 := by omega
      exact f_end () (by k_asm) (by k_asm) (.head _) (fun _ hp => .tail _ hp) hoff (by kst_all) (root_more hP (by unfold rootP; rw [beq_eq_false_iff_ne.mpr e0]; rfl))
  · rintro ⟨⟩ u h tk hP F3 N3
    exact absurd (root_whole hn1) (by rw [hP _ hn1 (Nat.le_refl _)]; exact Bool.false_ne_true)

end

theorem FlushC25 : True ∧ True := by
  w_top off
  walk1 <;> trivial
abbrev byA : Array UInt8 := #[40, 46, 43, 41, 37, 49, 36]
abbrev byB : Array UInt8 := #[40, 46, 45, 41, 37, 49, 37, 49, 36]
theorem nz_of_ab {b : Array UInt8} {ks : List Int} (hk : KBw.bInts b = ks) (hab : ∀ c ∈ ks, c = 97 ∨ c = 98) : ∀ c ∈ b.toList, c ≠ 0 := by
  intro c hc e
  subst e
  have h := hab 0 (by rw [← hk]; exact List.mem_map.mpr ⟨0, hc, rfl⟩)
  omega
def RightP (xk : List Int) : Prop := ∀ k, 1 ≤ k → k ≤ xk.length → rootP xk k = true → (∀ j, 1 ≤ j → j < k → rootP xk j = false) →
  spotsTo (xk ++ xk) xk ((xk ++ xk).length + 1) = (List.range (xk.length / k + 1)).map (fun t : Nat => (k : Int) * (t : Int)) ∧ (SqA xk ↔ (xk.length / k) % 2 = 0) ∧ (CuB xk ↔ (xk.length / k) % 3 = 0)
section
variable {w : World} {p : Program} {loose : List Str} {mean : ExcName → Option Value} {mg mb : Str → Option Value} {kt : Nat → Tok} {tx pt : Array UInt8} {tt tp t60 td tl : Tok} {dep lev : Int} {sa la x dx : Addr} {news rest : List (Addr × Obj)}
theorem lawA_ok {xk : List Int} (ht : KBw.bInts tx = xk) (htz : xk.length ≤ 1000) :
    Spec w p loose mean mg mb 297 [.bytes tx tt, .bytes byA tp] news 41 448 (fun news' r => news = news' ∧ ∃ b : Bool, r = .bool b ∧ (b = true ↔ SqA xk)) :=
  (law_is_ok (C := SqA xk) (e := xk.length) (by decide) ht htz fun kt t60 x dx td tl sa la ti tj hx hr => searchA (by rfl) ht htz hx hr).mono (fun n r h => ⟨h.1, by
    obtain ⟨b, h1, h2⟩ := h.2
    exact ⟨b, h1, h2.trans ⟨fun z => z.1, fun z => ⟨z, rfl⟩⟩⟩⟩) (Nat.le_refl _) (Nat.le_refl _)
theorem lawB_ok {xk : List Int} (ht : KBw.bInts tx = xk) (htz : xk.length ≤ 1000) :
    Spec w p loose mean mg mb 297 [.bytes tx tt, .bytes byB tp] news 41 448 (fun news' r => news = news' ∧ ∃ b : Bool, r = .bool b ∧ (b = true ↔ CuB xk)) :=
  (law_is_ok (C := CuB xk) (e := xk.length) (by decide) ht htz fun kt t60 x dx td tl sa la ti tj hx hr => searchB (by rfl) ht htz hx hr).mono (fun n r h => ⟨h.1, by
    obtain ⟨b, h1, h2⟩ := h.2
    exact ⟨b, h1, h2.trans ⟨fun z => z.1, fun z => ⟨z, rfl⟩⟩⟩⟩) (Nat.le_refl _) (Nat.le_refl _)
theorem lawL_ok {xk pk : List Int} (hp : KBw.bInts pt = pk) (hz : pk.length = xk.length) (hab : ∀ c ∈ pk, c = 97 ∨ c = 98) (ht : KBw.bInts tx = xk) (htz : xk.length ≤ 1000) :
    Spec w p loose mean mg mb 297 [.bytes tx tt, .bytes pt tp] news 41 448 (fun news' r => news = news' ∧ ∃ b : Bool, r = .bool b ∧ (b = true ↔ LitTo xk pk 0 pk.length)) :=
  (law_is_ok (C := LitTo xk pk 0 pk.length) (e := 0 + pk.length) (nz_of_ab hp hab) ht htz fun kt t60 x dx td tl sa la ti tj hx hr => (searchL (anch := true) hp (by omega) ht htz hab (Int.le_refl 0) hx hr).mono (fun n r h => by
    obtain ⟨dep9, td9, lev9, tl9, sa9, la9, (⟨s9, q9, t9, t9', g1, g2, hC, g4, g5, e9', hq9, e9⟩ | ⟨e9', g1, g2, e9⟩)⟩ := h
    · obtain rfl := g5 rfl
      exact ⟨dep9, td9, lev9, tl9, sa9, la9, .inl ⟨0, q9, t9, t9', g1, g2, hC, fun s' q1 q2 => by omega, fun _ => rfl, e9', hq9, e9⟩⟩
    · exact ⟨dep9, td9, lev9, tl9, sa9, la9, .inr ⟨e9', (fun z => absurd z.symm Bool.false_ne_true), fun _ q => g2 rfl q, e9⟩⟩) (Nat.le_refl _) (Nat.le_refl _)).mono (fun n r h => ⟨h.1, by
    obtain ⟨b, h1, h2⟩ := h.2
    exact ⟨b, h1, h2.trans ⟨fun z => z.1, fun z => ⟨z, by omega⟩⟩⟩⟩) (Nat.le_refl _) (Nat.le_refl _)
end

theorem FlushC26 : True ∧ True := by
  w_top off
  walk1 <;> trivial
theorem times_eq {n k : Nat} (_ : 1 ≤ k) (h2 : k ≤ n) : Int.fdiv (n : Int) ((min k n : Nat) : Int) = ((n / k : Nat) : Int) := by
  rw [Nat.min_eq_left h2, Int.fdiv_eq_ediv_of_nonneg _ (Int.natCast_nonneg _)]; rfl
theorem map_eq {n k : Nat} (h1 : 1 ≤ k) (h2 : k ≤ n) : List.map (fun k' => ((min k n : Nat) : Int) * k') (rangeKs 0 (Int.fdiv (n : Int) ((min k n : Nat) : Int) + 1 - 0).toNat) = (List.range (n / k + 1)).map (fun t : Nat => (k : Int) * (t : Int)) := by
  rw [times_eq h1 h2, Nat.min_eq_left h2, show (((n / k : Nat) : Int) + 1 - 0).toNat = n / k + 1 from by rw [Int.sub_zero]; rfl]
  simp [rangeKs]
theorem fin2 {b : Bool} {T mm : Nat} {S : Prop} {m : Int} (h : b = true ↔ S) (h2 : S ↔ T % mm = 0) (hm : m = (mm : Int)) : (b == (Int.fmod (T : Int) m == 0)) = true := by
  subst hm
  rw [Int.fmod_eq_emod_of_nonneg _ (Int.natCast_nonneg _), show ((T : Int) % (mm : Int)) = ((T % mm : Nat) : Int) from rfl]
  by_cases q : T % mm = 0
  · rw [h.mpr (h2.mpr q), q]; rfl
  · have hb : b = false := by
      cases b with
      | false => rfl
      | true => exact absurd (h2.mp (h.mp rfl)) q
    rw [hb, beq_eq_false_iff_ne.mpr (show ((T % mm : Nat) : Int) ≠ 0 by omega)]; rfl
theorem times_bd {n k : Nat} (h1 : 1 ≤ k) (h2 : k ≤ n) : 0 ≤ Int.fdiv (n : Int) ((min k n : Nat) : Int) ∧ Int.fdiv (n : Int) ((min k n : Nat) : Int) ≤ n := by
  rw [times_eq h1 h2]
  exact ⟨Int.natCast_nonneg _, Int.ofNat_le.mpr (Nat.div_le_self _ _)⟩
section
variable {w : World} {p : Program} {loose : List Str} {mean : ExcName → Option Value} {mg mb : Str → Option Value} {kt : Nat → Tok} {tx pt : Array UInt8} {tt tp t60 td tl : Tok} {dep lev : Int} {sa la x dx : Addr} {news rest : List (Addr × Obj)}
local macro_rules | `(tactic| walk_at "ite") => `(tactic| (k_here; k_openite; k_spoken; first
  | (refine ite_pos (by (try simp only [beq_iff_eq, bne_iff_ne, ne_eq, decide_eq_true_eq, Bool.not_eq_true', decide_eq_false_iff_not, beq_eq_false_iff_ne, Bool.and_eq_true, Bool.or_eq_true]); first | assumption | omega) ?_; walk_say "MINE pos")
  | (refine ite_neg (by (try simp only [beq_iff_eq, bne_iff_ne, ne_eq, decide_eq_true_eq, Bool.not_eq_true', decide_eq_false_iff_not, beq_eq_false_iff_ne, Bool.and_eq_true, Bool.or_eq_true]); first | assumption | omega) ?_; walk_say "MINE neg")))
local macro_rules | `(tactic| k_mem) => `(tactic| first | exact List.Mem.head _ | ktr_member | (refine' List.mem_cons_of_mem _ ?_; k_mem))
local macro_rules | `(tactic| k_all) => `(tactic| assumption)
local macro_rules | `(tactic| walk_at "call ref") => `(tactic| (k_here; k_dflt (
  refine' spec_use (law_root_ok ?ht ?hn1 ?htz) ?k1 ?k2 ?k3 ?k4 ?k5 ?kK ?kd ?ku ?_
  (case k1 => k_asm); (case k2 => k_asm); (case k3 => k_asm); (case k4 => k_asm); (case k5 => k_asm); (case kK => first | exact rfl | assumption)
  (case kd => ktr_room); (case ku => ktr_units)
  (case ht => assumption); (case hn1 => first | assumption | omega); (case htz => first | assumption | omega)
  intro r9 n9 h9 tk9 F9 N9 P9
  obtain ⟨e9, b9, t9, k9, e9', hb9, hk9, hk9', hr9, hm9⟩ := P9
  subst e9 e9'
  have hT9 := times_bd hk9 hk9'
  (try dsimp only); (try k_fold); (try k_sweep))))
local macro_rules | `(tactic| walk_at "call ref") => `(tactic| (k_here; k_dflt (
  refine' spec_use (lawA_ok ?ht ?htz) ?k1 ?k2 ?k3 ?k4 ?k5 ?kK ?kd ?ku ?_
  (case k1 => k_asm); (case k2 => k_asm); (case k3 => k_asm); (case k4 => k_asm); (case k5 => k_asm); (case kK => first | exact rfl | assumption)
  (case kd => ktr_room); (case ku => ktr_units)
  (case ht => assumption); (case htz => first | assumption | omega)
  intro r9 n9 h9 tk9 F9 N9 P9
  obtain ⟨e9, b9, e9', hb9⟩ := P9
  subst e9 e9'
  (try dsimp only); (try k_fold); (try k_sweep))))
local macro_rules | `(tactic| walk_at "call ref") => `(tactic| (k_here; k_dflt (
  refine' spec_use (lawB_ok ?ht ?htz) ?k1 ?k2 ?k3 ?k4 ?k5 ?kK ?kd ?ku ?_
  (case k1 => k_asm); (case k2 => k_asm); (case k3 => k_asm); (case k4 => k_asm); (case k5 => k_asm); (case kK => first | exact rfl | assumption)
  (case kd => ktr_room); (case ku => ktr_units)
  (case ht => assumption); (case htz => first | assumption | omega)
  intro r9 n9 h9 tk9 F9 N9 P9
  obtain ⟨e9, b9, e9', hb9⟩ := P9
  subst e9 e9'
  (try dsimp only); (try k_fold); (try k_sweep))))
local macro_rules | `(tactic| walk_at "call ref") => `(tactic| (k_here; k_dflt (
  refine' spec_use (law_spots_ok ?hb ?hp ?hz ?hpk ?hab ?ht ?htz) ?k1 ?k2 ?k3 ?k4 ?k5 ?kK ?kd ?ku ?_
  (case k1 => k_asm); (case k2 => k_asm); (case k3 => k_asm); (case k4 => k_asm); (case k5 => k_asm); (case kK => first | exact rfl | assumption)
  (case kd => ktr_room); (case ku => ktr_units)
  (case hb => assumption); (case hp => assumption); (case hz => omega); (case hpk => assumption); (case hab => assumption); (case ht => assumption); (case htz => (simp only [List.length_append]; omega))
  intro r9 n9 h9 tk9 F9 N9 P9
  obtain ⟨l9, vs9, e9, e9', hv9⟩ := P9
  subst e9 e9'
  (try dsimp only); (try k_fold); (try k_sweep))))

set_option maxHeartbeats 8000000 in
theorem law_right_ok {xk : List Int} (ht : KBw.bInts tx = xk) (hn1 : 0 < xk.length) (htz : xk.length ≤ 16) (hab : ∀ c ∈ xk, c = 97 ∨ c = 98) (hR : RightP xk) :
    Spec w p loose mean mg mb 302 [.bytes tx tt] news 44 512 (fun news' r => news = news' ∧ r = .bool true) := by
  have hb := nz_of_ab ht hab
  unfold Spec
  intro dp un gd cn cs a ccd cl outer A₀ base h₀ L m s Q E B F X N T hk hd hu hret
  (try dsimp only [MLed] at N)
  refine wpAny_call ?_
  k_dflt (refine' code_defC ?k1 ?k2 ?k3 ?k4 ?k5 ?kA ?kF ?kK ?k6 ?k7 ?k8 ?k9 ?kB ?kD ?_ ?c2 ?c3 ?c4; (case kA => exact rfl); (case kF => exact rfl); (case kK => assumption); (case k1 => k_asm); (case k2 => k_asm); (case k3 => k_asm); (case k4 => k_asm); (case k5 => k_asm); (case k6 => k_is); (case k7 => k_is); (case k8 => ktr_room); (case k9 => exact BindsTo.of_eq (show bindArgs _ _ = pure [(("word" : Str), _)] from rfl)); (case kB => exact rfl); (case kD => decide +kernel); (case c2 => exact rfl); (case c3 => exact rfl); (case c4 => exact rfl); k_whole; intro g' L' h' tk' cells' FG' F' N' Y' B' X' T' l1)
  (try have hdL : @LT.lt Nat _ d L' := l1 _ (updf_mem U))
  have hcell : ∀ p ∈ news, p.1 ≠ L' + 1 := fun p hp => Nat.ne_of_lt (Nat.lt_succ_of_lt (l1 p hp))
  have hY := CellsAre.one Y'
  obtain ⟨oC, hE', d1'⟩ := hY
  subst hE'
  clear Y'
  (try simp only [List.cons_append, List.nil_append] at N')
  (try dsimp only); (try k_fold)
  k_steps
  all_goals
    rename (rootP xk _ = true) => hr8
    rename (∀ j, 1 ≤ j → j < _ → rootP xk j = false) => hm8
    rename (1 ≤ _) => hk8
    rename (_ ≤ xk.length) => hk8'
    obtain ⟨q1, q2, q3⟩ := hR _ hk8 hk8' hr8 hm8
    rw [← map_eq hk8 hk8'] at q1
  · rename (_ != _) = true => hx
    rename (_ = true ↔ SqA xk) => hb8
    rw [times_eq hk8 hk8', bne, fin2 (m := 2) (mm := 2) hb8 q2 rfl] at hx
    exact absurd hx Bool.false_ne_true
  · rename (_ = true ↔ CuB xk) => hb8
    rw [times_eq hk8 hk8', fin2 (m := 3) (mm := 3) hb8 q3 rfl]
    exact hret _ _ _ _ (by k_asm) (dropN (dropN (dropN (by k_asm)))) ⟨rfl, rfl⟩
  · exact absurd q1 (by assumption)

end

theorem FlushC27 : True ∧ True := by
  w_top off
  walk1 <;> trivial
abbrev BagIs (w : World) (o : Obj) (la : Addr) (a : Int) (ta : Tok) : Prop := Obj.IsDictOf (PySem.strKind PR w) o [(PySem.Str.ofString "all", Value.ref la), (PySem.Str.ofString "at", Value.int a ta)]
theorem fmod_rng {v m : Int} (h : m = 2 ∨ m = 3) : 0 ≤ Int.fmod v m ∧ Int.fmod v m < m := by
  have h0 : 0 ≤ m := by omega
  rw [Int.fmod_eq_emod_of_nonneg _ h0]
  exact ⟨Int.emod_nonneg _ (by omega), Int.emod_lt_of_pos _ (by omega)⟩
theorem bag_put {w : World} {o : Obj} {la : Addr} {a b : Int} {ta tb : Tok} (h : Obj.IsDictOf (PySem.strKind PR w) o (stored [(PySem.Str.ofString "all", Value.ref la), (PySem.Str.ofString "at", Value.int a ta)] (PySem.Str.ofString "at") (Value.int b tb))) : BagIs w o la b tb := by
  have e : stored [(PySem.Str.ofString "all", Value.ref la), (PySem.Str.ofString "at", Value.int a ta)] (PySem.Str.ofString "at") (Value.int b tb) = [(PySem.Str.ofString "all", Value.ref la), (PySem.Str.ofString "at", Value.int b tb)] := by rfl
  rw [e] at h
  exact h
theorem updf_mem {d : Addr} {o : Obj} {news : List (Addr × Obj)} {g : Obj → List (Addr × Obj)} (U : UpdF d o news g) : (d, o) ∈ news := by
  obtain ⟨pre, post, rfl, hg, a, b⟩ := U.split
  exact List.mem_append_right _ (.head _)
theorem updf_self {d : Addr} {o : Obj} {news : List (Addr × Obj)} {g : Obj → List (Addr × Obj)} (U : UpdF d o news g) (o' : Obj) : (d, o') ∈ g o' := by
  obtain ⟨pre, post, rfl, hg, a, b⟩ := U.split
  rw [hg]
  exact List.mem_append_right _ (.head _)
theorem updf_keep {d : Addr} {o : Obj} {news : List (Addr × Obj)} {g : Obj → List (Addr × Obj)} (U : UpdF d o news g) (o' : Obj) {p : Addr × Obj} (hp : p ∈ news) (hne : p.1 ≠ d) : p ∈ g o' := by
  obtain ⟨pre, post, rfl, hg, a, b⟩ := U.split
  rw [hg]
  rcases List.mem_append.mp hp with h | h
  · exact List.mem_append_left _ h
  · rcases List.mem_cons.mp h with rfl | h
    · exact absurd rfl hne
    · exact List.mem_append_right _ (.tail _ h)
section
variable {w : World} {p : Program} {loose : List Str} {mean : ExcName → Option Value} {mg mb : Str → Option Value} {kt : Nat → Tok} {tx pt : Array UInt8} {tt tp t60 td tl : Tok} {dep lev : Int} {sa la x dx : Addr} {news rest : List (Addr × Obj)}
local macro_rules | `(tactic| walk_at "ite") => `(tactic| (k_here; k_openite; k_spoken; first
  | (refine ite_pos (by (try simp only [beq_iff_eq, bne_iff_ne, ne_eq, decide_eq_true_eq, Bool.not_eq_true', decide_eq_false_iff_not, beq_eq_false_iff_ne, Bool.and_eq_true, Bool.or_eq_true]); first | assumption | omega) ?_; walk_say "MINE pos")
  | (refine ite_neg (by (try simp only [beq_iff_eq, bne_iff_ne, ne_eq, decide_eq_true_eq, Bool.not_eq_true', decide_eq_false_iff_not, beq_eq_false_iff_ne, Bool.and_eq_true, Bool.or_eq_true]); first | assumption | omega) ?_; walk_say "MINE neg")))
local macro_rules | `(tactic| k_mem) => `(tactic| first | exact List.Mem.head _ | ktr_member | (refine' List.mem_cons_of_mem _ ?_; k_mem))
local macro_rules | `(tactic| k_all) => `(tactic| assumption)
local macro_rules | `(tactic| walk_at "subscriptTail") => `(tactic| (k_here; (with_reducible show wpAny _ _ (subscriptTail _ _ (Value.ref _) (Value.str _ _)) _ _ _); k_dflt (refine kda_item (knd := PySem.strKind _ _) (by k_asm) (by k_mem) (by k_asm) (strKind_is _ _ _ _) (by rfl) ?_)))
local macro_rules | `(tactic| walk_at "setItem ref str") => `(tactic| (k_here; (rename UpdF _ _ _ _ => hU9); (rename (_, W.listOf _ _) ∈ _ => hL9); k_dflt (refine' kda_set (knd := PySem.strKind _ _) ?F ?N ?U ?d (strKind_is _ _ _ _) ?z ?_; (case F => k_asm); (case N => k_asm); (case U => exact hU9); (case d => k_asm); (case z => rw [sizeLine_eq]; exact Nat.le_of_ble_eq_true (by with_unfolding_all rfl))); intro h' o' F' N' hd'; (try dsimp only at N'); (replace hd' := bag_put hd'); (have hM1 := updf_self hU9 o'); (have hM2 := updf_keep hU9 o' hL9 (by assumption)); (try k_sweep)))
local macro_rules | `(tactic| walk_at "call builtin:len") => `(tactic| (k_here; (with_reducible show wpAny _ _ (call (Value.builtin "len") [Value.ref _]) _ _ _); k_dflt (refine' kun_lenL (News.isList ?N ?m) ?hk ?hz ?_; (case N => k_asm); (case m => k_mem); (case hk => exact IntsAre.sizeZ (by assumption)); (case hz => omega); k_whole)))
local macro_rules | `(tactic| walk_at "subscriptTail") => `(tactic| (k_here; (with_reducible show wpAny _ _ (subscriptTail _ _ (Value.ref _) (Value.int _ _)) _ _ _); k_dflt (refine' item_list_ints (News.isList ?N ?m) ?hi ?h0 ?h1 ?hf ?_; (case N => k_asm); (case m => k_mem); (case hi => assumption); (case h0 => omega); (case h1 => omega); (case hf => omega)); intro t9))

set_option maxHeartbeats 8000000 in
theorem law_told_ok {d : Addr} {o : Obj} {na many : Int} {ta tm : Tok} {vs : List Value} {ns : List Int} {nl : Nat} {g : Obj → List (Addr × Obj)} (U : UpdF d o news g) (hd0 : BagIs w o la na ta) (hm : (la, W.listOf (List.toArray vs) nl) ∈ news) (hla : la ≠ d) (hv : IntsAre vs ns) (hn : ns.length ≤ 12) (ha : 0 ≤ na) (ha2 : na ≤ 100) (hmany : many = 2 ∨ many = 3) :
    Spec w p loose mean mg mb 271 [.ref d, .int many tm] news 1 16 (fun news' r => ∃ o' t v t', news' = g o' ∧ BagIs w o' la (na + 1) t ∧ r = .int v t' ∧ 0 ≤ v ∧ v < many) := by
  have hmd := updf_mem U
  unfold Spec
  intro dp un gd cn cs a ccd cl outer A₀ base h₀ L m s Q E B F X N T hk hd hu hret
  (try dsimp only [MLed] at N)
  refine wpAny_call ?_
  k_dflt (refine' code_def ?k1 ?k2 ?k3 ?k4 ?k5 ?kA ?kF ?kK ?k6 ?k7 ?k8 ?k9 ?kB ?_ ?c2 ?c3 ?c4 ?c5; (case kA => exact rfl); (case kF => exact rfl); (case kK => assumption); (case k1 => k_asm); (case k2 => k_asm); (case k3 => k_asm); (case k4 => k_asm); (case k5 => k_asm); (case k6 => k_is); (case k7 => k_is); (case k8 => ktr_room); (case k9 => exact BindsTo.of_eq (show bindArgs _ _ = pure [(("bag" : Str), _), (("many" : Str), _)] from rfl)); (case c5 => decide); (case kB => exact locs rfl); (case c2 => exact rfl); (case c3 => exact rfl); (case c4 => exact rfl); k_whole; intro g' L' h' FG' F' N' B' X' T'; (try dsimp only); (try k_fold))
  k_steps
  all_goals exact hret _ _ _ _ (by k_asm) (by k_asm) ⟨_, _, _, _, rfl, by assumption, rfl, (fmod_rng hmany).1, (fmod_rng hmany).2⟩

end

theorem FlushJ1 : True ∧ True := by
  w_top off
  walk1 <;> trivial
namespace Fd
open PySem.Spec PyProof.V Builtin in
theorem take_eq {id : String} {b : Array UInt8} {t : Tok} : Builtin.Bytes.takeBufferQuiet? id (.bytes b t) 0 = pure (some (b, none)) := by
  have e : Builtin.Bytes.takeBuffer? id (.bytes b t) 0 = pure (some (b, none)) := by
    unfold Builtin.Bytes.takeBuffer?
    rw [show ((0 : Int) == Builtin.Bytes.fullReadOnly) = false from by kernel_rfl, KBy.special_eq KBy.look_buffer, KBy.own_buffer, KBy.buffer_eq]
    kernel_rfl
  unfold Builtin.Bytes.takeBufferQuiet?
  rw [e]
  rfl
open PySem.Spec PyProof.V Builtin in
theorem if_pos_ {c : Prop} [Decidable c] {X Y : Prop} (hc : c) (h : X) : if c then X else Y := by
  rw [if_pos hc]
  exact h
theorem if_neg_ {c : Prop} [Decidable c] {X Y : Prop} (hc : ¬ c) (h : Y) : if c then X else Y := by
  rw [if_neg hc]
  exact h
open PySem.Spec PyProof.V Builtin in
theorem wp_letgo {M : Model} {A : Around} {E : Value → Shared → Prop} {s : Shared} {Q : Unit → Shared → Prop} : ∀ {l : List (Value × Option Value)} {k : List Value}, (∀ p ∈ l, p.2 = none) → Q () s → wpAny M A (Builtin.Bytes.joinLetGo l k) Q E s
  | [], _, _, h => wpAny_pure h
  | (x, w) :: r, k, hl, h => by
    have e : w = none := hl (x, w) (.head _)
    subst e
    unfold Builtin.Bytes.joinLetGo
    (try dsimp only)
    refine wpAny_bind (wpAny_letGo ?_)
    exact wp_letgo (fun p hp => hl p (.tail _ hp)) h
open PySem.Spec PyProof.V Builtin in
theorem meets_join {ys : List Value} {a : Addr} {b : Array UInt8} {t u : Tok} {c d : Array UInt8} {t2 t3 : Tok} (hy : ys = [.bytes b u] ∨ ys = [.bytes b u, .bytes c t2] ∨ ys = [.bytes b u, .bytes c t2, .bytes d t3]) (hz : b.size + c.size + d.size ≤ 1000) :
    Meets (Builtin.«bytes.join» ⟨[.bytes #[] t, .ref a], []⟩) (fun _ R s => s.heap.IsList a ys.toArray ∧ ∀ r t' tk, (ys = [.bytes b u] → r = b) → (ys = [.bytes b u, .bytes c t2] → r = b ++ c) → (ys = [.bytes b u, .bytes c t2, .bytes d t3] → r = b ++ c ++ d) → R (.ok (.ret (.bytes r t'))) { s with toks := tk }) := by
  refine .of_wp fun prog w A R s hS => ?_
  obtain ⟨⟨o, ho, hc, n, hd⟩, h⟩ := hS
  have hT : s.TypeIs (.ref a) "list" := ⟨o, ho, hc⟩
  show wpAny _ _ (Builtin.Bytes.joinM .bytes ⟨[.bytes #[] t, .ref a], []⟩) _ _ s
  unfold Builtin.Bytes.joinM
  dsimp only
  refine wpAny_bind (wpAny_of_eq (a := (Value.bytes #[] t, Value.ref a)) (by kernel_rfl) ?_)
  dsimp only
  refine wpAny_bind ?_
  unfold Builtin.Bytes.joinItems
  refine wpAny_bind (wpAny_typeOf hT (wpAny_ite ?_))
  refine if_pos_ (by kernel_rfl) (wpAny_pure ?_)
  refine wpAny_bind (wpAny_seqItems ho hd ?_)
  dsimp only
  rcases hy with rfl | rfl | rfl
  · refine wpAny_ite ?_
    refine if_pos_ (by rfl) ?_
    (try dsimp only)
    refine wpAny_bind (wpAny_typeOf (T := "bytes") rfl (wpAny_ite ?_))
    refine if_pos_ (by kernel_rfl) ?_
    exact wpAny_bind (wpAny_rule (wpAny_pure (by
      (try dsimp only)
      exact ⟨_, rfl, h b u s.toks (fun _ => rfl) (by simp) (by simp)⟩)))
  · refine wpAny_ite ?_
    refine if_pos_ (by rfl) ?_
    (try dsimp only)
    refine wpAny_bind ?_
    rw [Std.Legacy.Range.forIn_eq_forIn_range']
    (try dsimp only)
    rw [show List.range' _ _ _ = [0, 1] from by first | kernel_rfl | (simp [Std.Legacy.Range.size]; rfl), List.forIn_cons]
    refine wpAny_bind ?_
    refine wpAny_bind (wpAny_seqItems ho hd ?_)
    (try dsimp only)
    refine wpAny_ite ?_
    refine if_neg_ (by simp [Value.onHeap]) ?_
    refine wpAny_bind (wpAny_holding (wpAny_of_eq take_eq ?_))
    (try dsimp only)
    refine wpAny_bind (wpAny_seqItems ho hd ?_)
    (try dsimp only)
    refine wpAny_ite ?_
    refine if_neg_ (by simp) (wpAny_pure ?_)
    (try dsimp only)
    rw [List.forIn_cons]
    refine wpAny_bind ?_
    refine wpAny_bind (wpAny_seqItems ho hd ?_)
    (try dsimp only)
    refine wpAny_ite ?_
    refine if_neg_ (by simp [Value.onHeap]) ?_
    refine wpAny_bind (wpAny_holding (wpAny_of_eq take_eq ?_))
    (try dsimp only)
    refine wpAny_bind (wpAny_seqItems ho hd ?_)
    (try dsimp only)
    refine wpAny_ite ?_
    refine if_neg_ (by simp) (wpAny_pure ?_)
    (try dsimp only)
    rw [List.forIn_nil]
    refine wpAny_pure ?_
    (try dsimp only)
    refine wpAny_bind (wpAny_of_eq (a := (#[] : Array UInt8)) rfl ?_)
    refine wpAny_ite ?_
    refine if_neg_ (by rw [KBy.tooLong_not (by simp; omega)]; exact Bool.false_ne_true) ?_
    refine wpAny_bind ?_
    refine wpAny_mkBytes ?_ (by rw [sizeLine_eq]; simp [Builtin.Bytes.joined, List.zipIdx]; omega)
    refine wpAny_bind (wpAny_holding (wpAny_point ?_))
    refine wpAny_bind (wp_letgo (by simp) ?_)
    refine wpAny_pure ?_
    (try dsimp only)
    exact ⟨_, rfl, h _ _ _ (by simp) (fun _ => by simp [Builtin.Bytes.joined, List.zipIdx]) (by simp)⟩
  · refine wpAny_ite ?_
    refine if_pos_ (by rfl) ?_
    (try dsimp only)
    refine wpAny_bind ?_
    rw [Std.Legacy.Range.forIn_eq_forIn_range']
    (try dsimp only)
    rw [show List.range' _ _ _ = [0, 1, 2] from by first | kernel_rfl | (simp [Std.Legacy.Range.size]; rfl), List.forIn_cons]
    refine wpAny_bind ?_
    refine wpAny_bind (wpAny_seqItems ho hd ?_)
    (try dsimp only)
    refine wpAny_ite ?_
    refine if_neg_ (by simp [Value.onHeap]) ?_
    refine wpAny_bind (wpAny_holding (wpAny_of_eq take_eq ?_))
    (try dsimp only)
    refine wpAny_bind (wpAny_seqItems ho hd ?_)
    (try dsimp only)
    refine wpAny_ite ?_
    refine if_neg_ (by simp) (wpAny_pure ?_)
    (try dsimp only)
    rw [List.forIn_cons]
    refine wpAny_bind ?_
    refine wpAny_bind (wpAny_seqItems ho hd ?_)
    (try dsimp only)
    refine wpAny_ite ?_
    refine if_neg_ (by simp [Value.onHeap]) ?_
    refine wpAny_bind (wpAny_holding (wpAny_of_eq take_eq ?_))
    (try dsimp only)
    refine wpAny_bind (wpAny_seqItems ho hd ?_)
    (try dsimp only)
    refine wpAny_ite ?_
    refine if_neg_ (by simp) (wpAny_pure ?_)
    (try dsimp only)
    rw [List.forIn_cons]
    refine wpAny_bind ?_
    refine wpAny_bind (wpAny_seqItems ho hd ?_)
    (try dsimp only)
    refine wpAny_ite ?_
    refine if_neg_ (by simp [Value.onHeap]) ?_
    refine wpAny_bind (wpAny_holding (wpAny_of_eq take_eq ?_))
    (try dsimp only)
    refine wpAny_bind (wpAny_seqItems ho hd ?_)
    (try dsimp only)
    refine wpAny_ite ?_
    refine if_neg_ (by simp) (wpAny_pure ?_)
    (try dsimp only)
    rw [List.forIn_nil]
    refine wpAny_pure ?_
    (try dsimp only)
    refine wpAny_bind (wpAny_of_eq (a := (#[] : Array UInt8)) rfl ?_)
    refine wpAny_ite ?_
    refine if_neg_ (by rw [KBy.tooLong_not (by simp; omega)]; exact Bool.false_ne_true) ?_
    refine wpAny_bind ?_
    refine wpAny_mkBytes ?_ (by rw [sizeLine_eq]; simp [Builtin.Bytes.joined, List.zipIdx]; omega)
    refine wpAny_bind (wpAny_holding (wpAny_point ?_))
    refine wpAny_bind (wp_letgo (by simp) ?_)
    refine wpAny_pure ?_
    (try dsimp only)
    exact ⟨_, rfl, h _ _ _ (by simp) (by simp) (fun _ => by simp [Builtin.Bytes.joined, List.zipIdx])⟩
end Fd
inductive BsAre : List Value → List Int → Prop
  | nil : BsAre [] []
  | cons (b : Array UInt8) (t : Tok) (k : Int) {ys : List Value} {ss : List Int} (h : KBw.bInts b = [k]) (r : BsAre ys ss) : BsAre (.bytes b t :: ys) (k :: ss)
theorem BsAre.length : ∀ {ys : List Value} {ss : List Int}, BsAre ys ss → ys.length = ss.length
  | _, _, .nil => rfl
  | _, _, .cons _ _ _ _ r => by rw [List.length_cons, List.length_cons, r.length]
theorem BsAre.snoc {b : Array UInt8} {t : Tok} {k : Int} (h : KBw.bInts b = [k]) : ∀ {ys : List Value} {ss : List Int}, BsAre ys ss → BsAre (ys ++ [.bytes b t]) (ss ++ [k])
  | _, _, .nil => .cons b t k h .nil
  | _, _, .cons b' t' k' h' r => .cons b' t' k' h' (r.snoc h)
theorem size_one {b : Array UInt8} {k : Int} (h : KBw.bInts b = [k]) : b.size = 1 := by
  rw [← KBw.ints_length, h]; rfl
theorem ints_app (b c : Array UInt8) : KBw.bInts (b ++ c) = KBw.bInts b ++ KBw.bInts c := by simp [KBw.bInts]
theorem join_b {prog : Program} {w : World} {A : Around} {E : Value → Shared → Prop} {s : Shared} {a : Addr} {ys : List Value} {ss : List Int} {t : Tok} {Q : Value → Shared → Prop} (ha : s.heap.IsList a ys.toArray) (hy : BsAre ys ss) (h1 : 1 ≤ ss.length) (h3 : ss.length ≤ 3)
    (hq : ∀ r t' tk, KBw.bInts r = ss → Q (.bytes r t') { s with toks := tk }) :
    wpAny (model prog w) A (call (.builtin "bytes.join") [.bytes #[] t, .ref a]) Q E s := by
  cases hy with
  | nil => exact absurd h1 (by decide)
  | cons b u k hb r =>
    have zb := size_one hb
    cases r with
    | nil =>
      exact call_meets Fd.slot_join (typeIs_bytes _ _ _) Fd.entry_join (Fd.args_join _ _) (Fd.meets_join (b := b) (c := #[]) (d := #[]) (t2 := u) (t3 := u) (.inl rfl) (by simp; omega)) ⟨ha, fun r t' tk e1 _ _ => hq r t' tk (by rw [e1 rfl, hb])⟩
    | cons c u2 k2 hc r =>
      have zc := size_one hc
      cases r with
      | nil =>
        exact call_meets Fd.slot_join (typeIs_bytes _ _ _) Fd.entry_join (Fd.args_join _ _) (Fd.meets_join (b := b) (c := c) (d := #[]) (t3 := u) (.inr (.inl rfl)) (by simp; omega)) ⟨ha, fun r t' tk _ e1 _ => hq r t' tk (by rw [e1 rfl, ints_app, hb, hc]; rfl)⟩
      | cons d u3 k3 hd r =>
        have zd := size_one hd
        cases r with
        | nil =>
          exact call_meets Fd.slot_join (typeIs_bytes _ _ _) Fd.entry_join (Fd.args_join _ _) (Fd.meets_join (b := b) (c := c) (d := d) (.inr (.inr rfl)) (by omega)) ⟨ha, fun r t' tk _ _ e1 => hq r t' tk (by rw [e1 rfl, ints_app, ints_app, hb, hc, hd]; rfl)⟩
        | cons _ _ _ _ _ => simp at h3
section
variable {w : World} {p : Program} {loose : List Str} {mean : ExcName → Option Value} {mg mb : Str → Option Value} {kt : Nat → Tok} {tx pt : Array UInt8} {tt tp t60 td tl : Tok} {dep lev : Int} {sa la x dx : Addr} {news rest : List (Addr × Obj)}
local macro_rules | `(tactic| walk_at "ite") => `(tactic| (k_here; k_openite; k_spoken; first
  | (refine ite_pos (by (try simp only [beq_iff_eq, bne_iff_ne, ne_eq, decide_eq_true_eq, Bool.not_eq_true', decide_eq_false_iff_not, beq_eq_false_iff_ne, Bool.and_eq_true, Bool.or_eq_true]); first | assumption | omega) ?_; walk_say "MINE pos")
  | (refine ite_neg (by (try simp only [beq_iff_eq, bne_iff_ne, ne_eq, decide_eq_true_eq, Bool.not_eq_true', decide_eq_false_iff_not, beq_eq_false_iff_ne, Bool.and_eq_true, Bool.or_eq_true]); first | assumption | omega) ?_; walk_say "MINE neg")))
local macro_rules | `(tactic| k_mem) => `(tactic| first | exact List.Mem.head _ | ktr_member | (refine' List.mem_cons_of_mem _ ?_; k_mem))
local macro_rules | `(tactic| k_all) => `(tactic| assumption)
local macro_rules | `(tactic| walk_at "binaryOp Mult bytes int") => `(tactic| (k_here; refine stop_ ?_))

set_option maxHeartbeats 8000000 in
theorem repeated_ok {ks : List Int} {mm : Int} {tm tq : Tok} (ht : KBw.bInts tx = ks) (h1 : 1 ≤ ks.length) (h3 : ks.length ≤ 3) (hm1 : 1 ≤ mm) (hm3 : mm ≤ 3) :
    Spec w p loose mean mg mb 264 [.bytes tx tt, .int mm tm, .int 20 tq] news 0 8 (fun news' r => news = news' ∧ ∃ b t, r = .bytes b t ∧ KBw.bInts b = (List.replicate mm.toNat ks).flatten) := by
  have hlen : tx.size = ks.length := by rw [← ht, KBw.ints_length]
  have hpr : (ks.length : Int) * mm ≤ 9 := by
    have e : mm = (mm.toNat : Int) := by omega
    rw [e]
    exact Int.ofNat_le.mpr (Nat.mul_le_mul h3 (show mm.toNat ≤ 3 by omega))
  unfold Spec
  intro dp un gd cn cs a ccd cl outer A₀ base h₀ L m s Q E B F X N T hk hd hu hret
  (try dsimp only [MLed] at N)
  refine wpAny_call ?_
  k_dflt (refine' code_def ?k1 ?k2 ?k3 ?k4 ?k5 ?kA ?kF ?kK ?k6 ?k7 ?k8 ?k9 ?kB ?_ ?c2 ?c3 ?c4 ?c5; (case kA => exact rfl); (case kF => exact rfl); (case kK => assumption); (case k1 => k_asm); (case k2 => k_asm); (case k3 => k_asm); (case k4 => k_asm); (case k5 => k_asm); (case k6 => k_is); (case k7 => k_is); (case k8 => ktr_room); (case k9 => exact BindsTo.of_eq (show bindArgs _ _ = pure [(("text" : Str), _), (("many" : Str), _), (("bound" : Str), _)] from rfl)); (case c5 => decide); (case kB => exact locs rfl); (case c2 => exact rfl); (case c3 => exact rfl); (case c4 => exact rfl); k_whole; intro g' L' h' FG' F' N' B' X' T'; (try dsimp only); (try k_fold))
  k_steps
  refine Stop.go ?_
  refine mul_K ht (by omega) (by omega) (by omega) (by omega) ?_
  intro c9 t9 k9 hc9
  k_steps
  exact hret _ _ _ _ (by k_asm) (by k_asm) ⟨rfl, _, _, rfl, hc9⟩

end

theorem FlushC28 : True ∧ True := by
  w_top off
  walk1 <;> trivial
theorem updf_again {d : Addr} {o : Obj} {news : List (Addr × Obj)} {g : Obj → List (Addr × Obj)} (U : UpdF d o news g) : ∀ o', UpdF d o' (g o') g := by
  induction U with
  | head h => exact fun o' => .head h
  | tail h _ ih => exact fun o' => .tail h (ih o')
theorem comp_inv {prog : Program} {w : World} {A : Around} {s : Shared} {h₀ : Heap} {L : Addr} {m : Str → Option Value} {env : Env} {elt : PySem.Expr} {x : Str} {scope : Scope} {cl : List (Str × Addr)} {S : List (Addr × Obj) → Prop} {P : Nat → Value → Prop} {Fin : List Value → List (Addr × Obj) → Prop} {n : Nat} (J : Nat → List Value → List (Addr × Obj) → Prop)
    (turn : ∀ i v I oI C oC D m₂ h tk (E' : Value → Shared → Prop) ys nx, i < n → P i v → J i ys nx → LCg.NsObj oC m₂ → m₂ x = some v → Fr h₀ L h m → News h₀ L h ((I, oI) :: (C, oC) :: (D, LCg.lst ys) :: nx) → LCg.Off3 I C D nx → ((@Ne Nat I C) ∧ (@Ne Nat I D) ∧ (@Ne Nat C D)) →
      wpAny (model prog w) A (eval elt (compEnvC scope cl C env)) (LCg.CompEnd h₀ L m { s with heap := h, toks := tk } I oI C oC D (LCg.lst ys) S (fun y nx' => J (i + 1) (ys ++ [y]) nx')) E' { s with heap := h, toks := tk })
    (fin : ∀ ys nx, J n ys nx → Fin ys nx) : ∀ k i ys nx, i + k = n → J i ys nx → LCg.CompRest prog w A h₀ L m env elt x scope cl s S P Fin k i ys nx
  | 0, i, ys, nx, e, hJ => .zero (fin ys nx (by rw [Nat.add_zero] at e; exact e ▸ hJ))
  | k + 1, i, ys, nx, e, hJ => .succ fun v I oI C oC D m₂ h tk E' hP hC hx F N off ne => by
    refine wpAny_mono (turn i v I oI C oC D m₂ h tk E' ys nx (by omega) hP hJ hC hx F N off ne) (fun y s₂ hq => ?_) fun _ _ z => z
    obtain ⟨h', tk', news', e', F', N', off', hS, hJ'⟩ := hq
    exact ⟨h', tk', news', e', F', N', off', hS, comp_inv J turn fin k (i + 1) _ _ (by omega) hJ'⟩
theorem updf_addr {d : Addr} {o : Obj} {news : List (Addr × Obj)} {g : Obj → List (Addr × Obj)} (U : UpdF d o news g) {X : Addr → Prop} {o1 o2 : Obj} (h : ∀ p ∈ g o1, X p.1) : ∀ p ∈ g o2, X p.1 := by
  obtain ⟨pre, post, rfl, hg, a, b⟩ := U.split
  rw [hg] at h ⊢
  intro p hp
  rcases List.mem_append.mp hp with q | q
  · exact h p (List.mem_append_left _ q)
  · rcases List.mem_cons.mp q with rfl | q
    · exact h (d, o1) (List.mem_append_right _ (.head _))
    · exact h p (List.mem_append_right _ (.tail _ q))
theorem off1_mem {D : Addr} : ∀ {l : List (Addr × Obj)}, LCg.Off1 D l → ∀ p ∈ l, p.1 ≠ D
  | [], _, _, h => nomatch h
  | _ :: _, x, p, h => by
    rcases List.mem_cons.mp h with rfl | h
    · exact x.1
    · exact off1_mem x.2 p h
section
variable {w : World} {p : Program} {loose : List Str} {mean : ExcName → Option Value} {mg mb : Str → Option Value} {kt : Nat → Tok} {tx pt : Array UInt8} {tt tp t60 td tl : Tok} {dep lev : Int} {sa la x dx : Addr} {news rest : List (Addr × Obj)}
local macro_rules | `(tactic| walk_at "ite") => `(tactic| (k_here; k_openite; k_spoken; first
  | (refine ite_pos (by (try simp only [beq_iff_eq, bne_iff_ne, ne_eq, decide_eq_true_eq, Bool.not_eq_true', decide_eq_false_iff_not, beq_eq_false_iff_ne, Bool.and_eq_true, Bool.or_eq_true]); first | assumption | omega) ?_; walk_say "MINE pos")
  | (refine ite_neg (by (try simp only [beq_iff_eq, bne_iff_ne, ne_eq, decide_eq_true_eq, Bool.not_eq_true', decide_eq_false_iff_not, beq_eq_false_iff_ne, Bool.and_eq_true, Bool.or_eq_true]); first | assumption | omega) ?_; walk_say "MINE neg")))
local macro_rules | `(tactic| k_mem) => `(tactic| first | exact List.Mem.head _ | ktr_member | (refine' List.mem_cons_of_mem _ ?_; k_mem))
local macro_rules | `(tactic| k_all) => `(tactic| assumption)
local macro_rules | `(tactic| k_updF) => `(tactic| assumption)
local macro_rules | `(tactic| walk_at "getMethod bytes") => `(tactic| (k_here; (with_reducible refine Fd.method_join ?_)))
local macro_rules | `(tactic| walk_at "CompSrc") => `(tactic| (refine stop_ ?_))
local macro_rules | `(tactic| walk_at "CompEnd") => `(tactic| (refine stop_ ?_))
local macro_rules | `(tactic| walk_at "call builtin:bytes.join") => `(tactic| (refine stop_ ?_))
local macro_rules | `(tactic| walk_at "call ref") => `(tactic| (k_here; k_dflt (
  refine' spec_use (law_told_ok ?U ?hd ?hm ?hla ?hv ?hn ?ha ?ha2 ?hmany) ?k1 ?k2 ?k3 ?k4 ?k5 ?kK ?kd ?ku ?_
  (case k1 => k_asm); (case k2 => k_asm); (case k3 => k_asm); (case k4 => k_asm); (case k5 => k_asm); (case kK => first | exact rfl | assumption)
  (case U => k_updF); (case hd => assumption); (case hm => k_mem); (case hla => assumption); (case hv => assumption); (case hn => assumption); (case ha => omega); (case ha2 => omega); (case hmany => omega); (case kd => ktr_room); (case ku => ktr_units)
  intro r9 n9 h9 tk9 F9 N9 P9
  obtain ⟨o9, t9, v9, t9', e9, hd9, e9', hv0, hv1⟩ := P9
  subst e9 e9'
  (rename UpdF _ _ _ _ => hU8); (rename (_, W.listOf _ _) ∈ _ => hL8)
  have hU9 := updf_again hU8 o9
  have hL9 := updf_keep hU8 o9 hL8 (by assumption)
  (try dsimp only at N9); (try dsimp only); (try k_fold); (try k_sweep))))
local macro_rules | `(tactic| walk_at "call ref") => `(tactic| (k_here; k_dflt (
  refine' spec_use (repeated_ok ?ht ?h1 ?h3 ?hm1 ?hm3) ?k1 ?k2 ?k3 ?k4 ?k5 ?kK ?kd ?ku ?_
  (case k1 => k_asm); (case k2 => k_asm); (case k3 => k_asm); (case k4 => k_asm); (case k5 => k_asm); (case kK => first | exact rfl | assumption)
  (case kd => ktr_room); (case ku => ktr_units)
  (case ht => assumption); (case h1 => assumption); (case h3 => assumption); (case hm1 => omega); (case hm3 => omega)
  intro r9 n9 h9 tk9 F9 N9 P9
  obtain ⟨e9, b9, t9, e9', hb9⟩ := P9
  subst e9 e9'
  (try dsimp only); (try k_fold); (try k_sweep))))

set_option maxHeartbeats 8000000 in
theorem law_word_ok {d : Addr} {o : Obj} {na : Int} {ta : Tok} {vs : List Value} {ns : List Int} {nl : Nat} {g : Obj → List (Addr × Obj)} (U : UpdF d o news g) (hd0 : BagIs w o la na ta) (hm : (la, W.listOf (List.toArray vs) nl) ∈ news) (hla : la ≠ d) (hv : IntsAre vs ns) (hn : ns.length ≤ 12) (ha : 0 ≤ na) (ha2 : na ≤ 50) :
    Spec w p loose mean mg mb 276 [.ref d] news 10 64 (fun news' r => ∃ o' a' t, news' = g o' ∧ BagIs w o' la a' t ∧ na ≤ a' ∧ a' ≤ na + 5 ∧ ∃ b t2 ks mm, r = .bytes b t2 ∧ KBw.bInts b = (List.replicate mm ks).flatten ∧ 1 ≤ ks.length ∧ ks.length ≤ 3 ∧ (∀ c ∈ ks, c = 97 ∨ c = 98) ∧ 1 ≤ mm ∧ mm ≤ 3) := by
  unfold Spec
  intro dp un gd cn cs a ccd cl outer A₀ base h₀ L m s Q E B F X N T hk hd hu hret
  (try dsimp only [MLed] at N)
  refine wpAny_call ?_
  k_dflt (refine' code_defC ?k1 ?k2 ?k3 ?k4 ?k5 ?kA ?kF ?kK ?k6 ?k7 ?k8 ?k9 ?kB ?kD ?_ ?c2 ?c3 ?c4; (case kA => exact rfl); (case kF => exact rfl); (case kK => assumption); (case k1 => k_asm); (case k2 => k_asm); (case k3 => k_asm); (case k4 => k_asm); (case k5 => k_asm); (case k6 => k_is); (case k7 => k_is); (case k8 => ktr_room); (case k9 => exact BindsTo.of_eq (show bindArgs _ _ = pure [(("bag" : Str), _)] from rfl)); (case kB => exact rfl); (case kD => decide +kernel); (case c2 => exact rfl); (case c3 => exact rfl); (case c4 => exact rfl); k_whole; intro g' L' h' tk' cells' FG' F' N' Y' B' X' T' l1)
  (try have hdL : @LT.lt Nat _ d L' := l1 _ (updf_mem U))
  have hcell : ∀ p ∈ news, p.1 ≠ L' + 1 := fun p hp => Nat.ne_of_lt (Nat.lt_succ_of_lt (l1 p hp))
  have hY := CellsAre.one Y'
  obtain ⟨oC, hE', d1'⟩ := hY
  subst hE'
  clear Y'
  (try simp only [List.cons_append, List.nil_append] at N')
  (try dsimp only); (try k_fold)
  k_steps
  refine Stop.go ?_
  rename Int => v9'
  rename (_ < (3 : Int)) => hv9
  rename ((0 : Int) ≤ _) => hv8
  rename Fr _ _ _ _ => F2
  rename News _ _ _ _ => N2
  rename IsRange _ _ _ _ _ _ _ _ => R2
  rename UpdF _ _ _ _ => hU2
  rename (_, W.listOf _ _) ∈ _ => hL2
  rename BagIs _ _ _ _ _ => hB2
  rename Obj => o9
  have dC : oC.data = .cell (some (.ref d)) := d1'
  have hR2 := rangeSize_nat 0 (1 + v9')
  refine LCg.CompSrc.range (n := (1 + v9').toNat) (by rfl) F2 N2 R2 (small_one (by omega) (by omega) (by omega) (by omega)) (hR2.trans (by omega)) (by rw [sizeLine_eq]; omega) ?_
  intro g9
  refine comp_inv (fun i ys nx => ∃ oi a' t ss, nx = (L' + 1, oC) :: g oi ∧ BagIs w oi la a' t ∧ na + 1 ≤ a' ∧ a' ≤ na + 1 + (i : Int) ∧ (la, W.listOf (List.toArray vs) nl) ∈ g oi ∧ IntsAre ys ss ∧ ss.length = i ∧ ∀ c ∈ ss, c = (0 : Int) ∨ c = 1) ?_ ?_ _ 0 [] _ (Nat.zero_add _) ⟨o9, _, _, [], rfl, hB2, by omega, by omega, hL2, .nil, rfl, fun c hc => nomatch hc⟩
  · intro i v I oI C oC' D m₂ h tk E' ys nx hi hP hJ hC hx F N off ne
    obtain ⟨oi, a', t, ss, rfl, hB, ha', ha2', hL, hys, hss, hbit⟩ := hJ
    have hI := off.mem
    have hdI := (hI _ (.tail _ (updf_self hU2 oi))).1
    have hdC := (hI _ (.tail _ (updf_self hU2 oi))).2.1
    have hdD := (hI _ (.tail _ (updf_self hU2 oi))).2.2
    have hUi : UpdF d oi ((I, oI) :: (C, oC') :: (D, LCg.lst ys) :: (L' + 1, oC) :: g oi) (fun o' => (I, oI) :: (C, oC') :: (D, LCg.lst ys) :: (L' + 1, oC) :: g o') := .tail (Ne.symm hdI) (.tail (Ne.symm hdC) (.tail (Ne.symm hdD) (.tail (Nat.ne_of_gt (Nat.lt_succ_of_lt hdL)) (updf_again hU2 oi))))
    have hLi : (la, W.listOf (List.toArray vs) nl) ∈ (I, oI) :: (C, oC') :: (D, LCg.lst ys) :: (L' + 1, oC) :: g oi := .tail _ (.tail _ (.tail _ (.tail _ hL)))
    dsimp only
    k_steps
    refine Stop.go ?_
    rename Obj => o3
    rename (_ < (2 : Int)) => hv3
    rename ((0 : Int) ≤ _) => hv4
    rename Fr _ _ _ _ => F3
    rename News _ _ _ _ => N3
    rename BagIs _ _ _ _ _ => hB3
    refine LCg.CompEnd.intro F3 N3 ((L' + 1, oC) :: g o3) (fun p hp => hp) (LCg.Off3.of fun p hp => ?_) trivial ⟨o3, _, _, ss ++ [_], rfl, hB3, by omega, by omega, updf_keep (updf_again hU2 oi) o3 hL hla, hys.append (.cons _ _ .nil), by rw [List.length_append, hss]; rfl, fun c hc => ?_⟩
    · rcases List.mem_cons.mp hp with rfl | hp
      · exact hI _ (.head _)
      · exact updf_addr hU2 (X := fun a => a ≠ I ∧ a ≠ C ∧ a ≠ D) (fun p hp => hI p (.tail _ hp)) p hp
    · rcases List.mem_append.mp hc with hc | hc
      · exact hbit c hc
      · rw [List.mem_singleton.mp hc]; omega
  · intro ys nx hJ
    obtain ⟨oi, a', t, ss, rfl, hB, ha', ha2', hL, hys, hss, hbit⟩ := hJ
    have hlen := hys.length
    unfold LCg.FinE
    intro D h tk F N off
    refine LCg.CompSrc.ledger (by rfl) F N (.head _) (by rw [sizeLine_eq, List.size_toArray]; omega) ?_
    intro g10
    refine comp_inv (fun i acc nx => nx = (D, LCg.lst ys) :: (L' + 1, oC) :: g oi ∧ BsAre acc ((ss.take i).map (fun c => 97 + c))) ?_ ?_ _ 0 [] _ (Nat.zero_add _) ⟨rfl, by rw [List.take_zero]; exact .nil⟩
    · intro i v I oI C oC' D' m₂ h tk E' acc nx hi hP hJ hC hx F N off ne
      obtain ⟨rfl, hacc⟩ := hJ
      obtain ⟨k, tk', rfl, hk⟩ := hys.at i v (by simpa using hP)
      rcases hbit k (List.mem_of_getElem? hk) with rfl | rfl
      · dsimp only
        k_steps
        refine Stop.go ?_
        rename Fr _ _ _ _ => F3
        rename News _ _ _ _ => N3
        refine LCg.CompEnd.intro F3 N3 ((D, LCg.lst ys) :: (L' + 1, oC) :: g oi) (fun p hp => hp) off (.inr ⟨_, .head _, rfl, _, rfl⟩) ⟨rfl, ?_⟩
        rw [List.take_add_one, hk, List.map_append]
        exact hacc.snoc (by decide +kernel)
      · dsimp only
        k_steps
        refine Stop.go ?_
        rename Fr _ _ _ _ => F3
        rename News _ _ _ _ => N3
        refine LCg.CompEnd.intro F3 N3 ((D, LCg.lst ys) :: (L' + 1, oC) :: g oi) (fun p hp => hp) off (.inr ⟨_, .head _, rfl, _, rfl⟩) ⟨rfl, ?_⟩
        rw [List.take_add_one, hk, List.map_append]
        exact hacc.snoc (by decide +kernel)
    · intro acc nx hJ
      obtain ⟨rfl, hacc⟩ := hJ
      rw [List.size_toArray, hlen, List.take_length] at hacc
      intro D2 h tk F N off2
      have hdD := off1_mem off _ (.tail _ (updf_self hU2 oi))
      have hdD2 := off1_mem off2 _ (.tail _ (.tail _ (updf_self hU2 oi)))
      have hUi : UpdF d oi ((D2, LCg.lst acc) :: (D, LCg.lst ys) :: (L' + 1, oC) :: g oi) (fun o' => (D2, LCg.lst acc) :: (D, LCg.lst ys) :: (L' + 1, oC) :: g o') := .tail (Ne.symm hdD2) (.tail (Ne.symm hdD) (.tail (Nat.ne_of_gt (Nat.lt_succ_of_lt hdL)) (updf_again hU2 oi)))
      have hLi : (la, W.listOf (List.toArray vs) nl) ∈ (D2, LCg.lst acc) :: (D, LCg.lst ys) :: (L' + 1, oC) :: g oi := .tail _ (.tail _ (.tail _ hL))
      dsimp only
      k_steps
      refine Stop.go ?_
      have hsl : (List.map (fun c => 97 + c) ss).length = (1 + v9').toNat := by rw [List.length_map, hss]
      refine join_b (News.isList (by k_asm) (.head _)) hacc (by omega) (by omega) ?_
      intro b9 t9 tk9 hb9
      have hk1 : 1 ≤ (List.map (fun c => 97 + c) ss).length := by omega
      have hk3 : (List.map (fun c => 97 + c) ss).length ≤ 3 := by omega
      k_steps
      rename Obj => o5
      rename BagIs _ _ _ _ _ => hB5
      rename (_ < (3 : Int)) => hv5
      rename ((0 : Int) ≤ _) => hv6
      rename (KBw.bInts _ = List.flatten _) => hb5
      exact hret _ (g o5) _ _ (by k_asm) (dropN (dropN (dropN (by k_asm)))) ⟨o5, _, _, rfl, hB5, by omega, by omega, _, _, _, _, rfl, hb5, hk1, hk3, (fun c hc => by
        obtain ⟨x, hx, rfl⟩ := List.mem_map.mp hc
        have := hbit x hx
        omega), by omega, by omega⟩

end

theorem FlushD1 : True ∧ True := by
  w_top off
  walk1 <;> trivial
def rootN (xk : List Int) : Nat := (((List.range xk.length).find? fun j => rootP xk (j + 1)).getD 0) + 1
theorem rootN_eq {xk : List Int} {k : Nat} (h1 : 1 ≤ k) (h2 : k ≤ xk.length) (hr : rootP xk k = true) (hm : ∀ j, 1 ≤ j → j < k → rootP xk j = false) : rootN xk = k := by
  have e : (List.range xk.length).find? (fun j => rootP xk (j + 1)) = some (k - 1) := by
    cases hf : (List.range xk.length).find? (fun j => rootP xk (j + 1)) with
    | none =>
      have h := List.find?_eq_none.mp hf (k - 1) (List.mem_range.mpr (by omega))
      rw [show k - 1 + 1 = k by omega, hr] at h
      exact absurd rfl h
    | some i =>
      have h3 : rootP xk (i + 1) = true := List.find?_some (p := fun j => rootP xk (j + 1)) hf
      have h4 : ¬ i < k - 1 := fun z => by
        have := hm (i + 1) (by omega) (by omega)
        rw [h3] at this
        cases this
      have h5 : ¬ k - 1 < i := fun z => by
        have hf' := (List.find?_range_eq_some.mp hf).2.2 (k - 1) z
        rw [show k - 1 + 1 = k by omega, hr] at hf'
        cases hf'
      rw [show i = k - 1 by omega]
  unfold rootN
  rw [e]
  show k - 1 + 1 = k
  omega
def sqB (xk : List Int) : Bool := (List.range (xk.length + 1)).any fun k => decide (1 ≤ k) && (k + k == xk.length) && (xk.take k == xk.drop k)
def cuB (xk : List Int) : Bool := (List.range (xk.length + 1)).any fun k => (k + k + k == xk.length) && (xk.take k == (xk.drop k).take k) && (xk.take k == xk.drop (k + k))
theorem sqB_iff {xk : List Int} : sqB xk = true ↔ SqA xk := by
  unfold sqB SqA TailA
  rw [List.any_eq_true]
  constructor
  · rintro ⟨k, hk, h⟩
    rw [Bool.and_eq_true, Bool.and_eq_true, decide_eq_true_eq, beq_iff_eq, beq_iff_eq] at h
    exact ⟨k, h.1.1, by omega, h.1.2, h.2⟩
  · rintro ⟨k, h1, h2, h3, h4⟩
    refine ⟨k, List.mem_range.mpr (by omega), ?_⟩
    rw [Bool.and_eq_true, Bool.and_eq_true, decide_eq_true_eq, beq_iff_eq, beq_iff_eq]
    exact ⟨⟨h1, h3⟩, h4⟩
theorem cuB_iff {xk : List Int} : cuB xk = true ↔ CuB xk := by
  unfold cuB CuB TailB
  rw [List.any_eq_true]
  constructor
  · rintro ⟨k, hk, h⟩
    rw [Bool.and_eq_true, Bool.and_eq_true, beq_iff_eq, beq_iff_eq, beq_iff_eq] at h
    exact ⟨k, by omega, by omega, h.1.1, h.1.2, h.2⟩
  · rintro ⟨k, h1, h2, h3, h4, h5⟩
    refine ⟨k, List.mem_range.mpr (by omega), ?_⟩
    rw [Bool.and_eq_true, Bool.and_eq_true, beq_iff_eq, beq_iff_eq, beq_iff_eq]
    exact ⟨⟨h3, h4⟩, h5⟩
def rightB (xk : List Int) : Bool :=
  (spotsTo (xk ++ xk) xk ((xk ++ xk).length + 1) == (List.range (xk.length / rootN xk + 1)).map (fun t : Nat => ((rootN xk : Nat) : Int) * (t : Int))) && (sqB xk == ((xk.length / rootN xk) % 2 == 0)) && (cuB xk == ((xk.length / rootN xk) % 3 == 0))
theorem iff_of_beq {a : Bool} {S : Prop} {n : Nat} (h : a = true ↔ S) (e : (a == (n == 0)) = true) : S ↔ n = 0 := by
  rw [beq_iff_eq.mp e] at h
  rw [← h, beq_iff_eq]
theorem right_of {xk : List Int} (h : rightB xk = true) : RightP xk := by
  intro k h1 h2 h3 h4
  have e := rootN_eq h1 h2 h3 h4
  unfold rightB at h
  rw [e, Bool.and_eq_true, Bool.and_eq_true] at h
  exact ⟨beq_iff_eq.mp h.1.1, iff_of_beq sqB_iff h.1.2, iff_of_beq cuB_iff h.2⟩
def allK : List (List Int) := ([97, 98].map fun a => [a]) ++ ([97, 98].flatMap fun a => [97, 98].map fun b => [a, b]) ++ ([97, 98].flatMap fun a => [97, 98].flatMap fun b => [97, 98].map fun c => [a, b, c])
def words : List (List Int) := allK.flatMap fun ks => [1, 2, 3].map fun m => (List.replicate m ks).flatten
theorem allK_mem {ks : List Int} (h1 : 1 ≤ ks.length) (h3 : ks.length ≤ 3) (hb : ∀ c ∈ ks, c = 97 ∨ c = 98) : ks ∈ allK := by
  match ks, h1, h3, hb with
  | [a], _, _, hb =>
    rcases hb a (by simp) with rfl | rfl <;> decide +kernel
  | [a, b], _, _, hb =>
    rcases hb a (by simp) with rfl | rfl <;> rcases hb b (by simp) with rfl | rfl <;> decide +kernel
  | [a, b, c], _, _, hb =>
    rcases hb a (by simp) with rfl | rfl <;> rcases hb b (by simp) with rfl | rfl <;> rcases hb c (by simp) with rfl | rfl <;> decide +kernel
theorem words_mem {ks : List Int} {mm : Nat} (h1 : 1 ≤ ks.length) (h3 : ks.length ≤ 3) (hb : ∀ c ∈ ks, c = 97 ∨ c = 98) (hm : 1 ≤ mm) (hm3 : mm ≤ 3) : (List.replicate mm ks).flatten ∈ words := by
  refine List.mem_flatMap.mpr ⟨ks, allK_mem h1 h3 hb, List.mem_map.mpr ⟨mm, ?_, rfl⟩⟩
  have : mm = 1 ∨ mm = 2 ∨ mm = 3 := by omega
  rcases this with rfl | rfl | rfl <;> simp
theorem words_right : words.all rightB = true := by decide +kernel
theorem words_ok : words.all (fun x => decide (1 ≤ x.length) && decide (x.length ≤ 9) && x.all (fun c => c == 97 || c == 98)) = true := by decide +kernel
def pairB (x y : List Int) : Bool :=
  (litB (x ++ y) (y ++ x) 0 == (x.take (rootN x) == y.take (rootN y))) && (!(x.take (rootN x) == y.take (rootN y)) || ((spotsTo (x ++ y) (x.take (rootN x)) ((x ++ y).length + 1)).take 2 == [0, ((rootN x : Nat) : Int)]))
theorem all_cut {α : Type} {p : α → Bool} {l : List α} (n : Nat) (h1 : (l.take n).all p = true) (h2 : (l.drop n).all p = true) : l.all p = true := by
  rw [← List.take_append_drop n l, List.all_append, h1, h2]; rfl
theorem pairs_a : (words.take 11).all (fun x => words.all (pairB x)) = true := by decide +kernel
theorem pairs_b : ((words.drop 11).take 11).all (fun x => words.all (pairB x)) = true := by decide +kernel
theorem pairs_c : (((words.drop 11).drop 11).take 10).all (fun x => words.all (pairB x)) = true := by decide +kernel
theorem pairs_d : (((words.drop 11).drop 11).drop 10).all (fun x => words.all (pairB x)) = true := by decide +kernel
theorem words_pair : words.all (fun x => words.all (pairB x)) = true := all_cut 11 pairs_a (all_cut 11 pairs_b (all_cut 10 pairs_c pairs_d))
theorem word_right {xk : List Int} (h : xk ∈ words) : RightP xk := right_of (List.all_eq_true.mp words_right xk h)
theorem word_ok {xk : List Int} (h : xk ∈ words) : 1 ≤ xk.length ∧ xk.length ≤ 9 ∧ ∀ c ∈ xk, c = 97 ∨ c = 98 := by
  have e := List.all_eq_true.mp words_ok xk h
  rw [Bool.and_eq_true, Bool.and_eq_true, decide_eq_true_eq, decide_eq_true_eq, List.all_eq_true] at e
  refine ⟨e.1.1, e.1.2, fun c hc => ?_⟩
  have := e.2 c hc
  rw [Bool.or_eq_true, beq_iff_eq, beq_iff_eq] at this
  exact this
theorem pair_law {xk yk : List Int} (hx : xk ∈ words) (hy : yk ∈ words) {k1 k2 : Nat} (h1 : 1 ≤ k1) (h2 : k1 ≤ xk.length) (h3 : rootP xk k1 = true) (h4 : ∀ j, 1 ≤ j → j < k1 → rootP xk j = false) (g1 : 1 ≤ k2) (g2 : k2 ≤ yk.length) (g3 : rootP yk k2 = true) (g4 : ∀ j, 1 ≤ j → j < k2 → rootP yk j = false) :
    (LitTo (xk ++ yk) (yk ++ xk) 0 (yk ++ xk).length ↔ xk.take k1 = yk.take k2) ∧ (xk.take k1 = yk.take k2 → (spotsTo (xk ++ yk) (xk.take k1) ((xk ++ yk).length + 1)).take 2 = [0, (k1 : Int)]) := by
  have e := List.all_eq_true.mp (List.all_eq_true.mp words_pair xk hx) yk hy
  unfold pairB at e
  rw [rootN_eq h1 h2 h3 h4, rootN_eq g1 g2 g3 g4, Bool.and_eq_true] at e
  have hl := (word_ok hx).1
  have q := litB_iff (xk := xk ++ yk) (pk := yk ++ xk) (q := 0) (by rw [List.length_append]; omega)
  refine ⟨?_, fun z => ?_⟩
  · rw [show ((0 : Nat) : Int) = 0 from rfl] at q
    rw [← q, beq_iff_eq.mp e.1, beq_iff_eq]
  · have e2 := e.2
    rw [beq_iff_eq.mpr z] at e2
    exact beq_iff_eq.mp e2

theorem FlushL1 : True ∧ True := by
  w_top off
  walk1 <;> trivial
theorem words_root : words.all (fun x => decide (rootN x ≤ x.length)) = true := by decide +kernel
theorem root_le {xk : List Int} (h : xk ∈ words) : rootN xk ≤ xk.length := by
  have e := List.all_eq_true.mp words_root xk h
  exact of_decide_eq_true e
theorem pair_one {xk yk : List Int} (hx : xk ∈ words) (hy : yk ∈ words) {b c : Bool} (hb : b = true ↔ LitTo (xk ++ yk) (yk ++ xk) 0 (yk ++ xk).length) (hc : c = true ↔ xk.take (rootN xk) = yk.take (rootN yk)) : b = c := by
  have e := List.all_eq_true.mp (List.all_eq_true.mp words_pair xk hx) yk hy
  unfold pairB at e
  rw [Bool.and_eq_true] at e
  have hl := (word_ok hx).1
  have q := litB_iff (xk := xk ++ yk) (pk := yk ++ xk) (q := 0) (by rw [List.length_append]; omega)
  rw [show ((0 : Nat) : Int) = 0 from rfl, beq_iff_eq.mp e.1, beq_iff_eq, ← hb, ← hc] at q
  cases b <;> cases c <;> simp_all
theorem pair_two {xk yk : List Int} (hx : xk ∈ words) (hy : yk ∈ words) (hc : xk.take (rootN xk) = yk.take (rootN yk)) : (spotsTo (xk ++ yk) (xk.take (rootN xk)) ((xk ++ yk).length + 1)).take 2 = [0, ((rootN xk : Nat) : Int)] := by
  have e := List.all_eq_true.mp (List.all_eq_true.mp words_pair xk hx) yk hy
  unfold pairB at e
  rw [Bool.and_eq_true, beq_iff_eq.mpr hc] at e
  exact beq_iff_eq.mp e.2
theorem ab_app {xk yk : List Int} (hx : xk ∈ words) (hy : yk ∈ words) : ∀ c ∈ xk ++ yk, c = 97 ∨ c = 98 := fun c hc => by
  rcases List.mem_append.mp hc with h | h
  · exact (word_ok hx).2.2 c h
  · exact (word_ok hy).2.2 c h
theorem add_K {prog : Program} {w : World} {A : Around} {E : Value → Shared → Prop} {s : Shared} {b c : Array UInt8} {xk yk : List Int} {t u : Tok} {Q : Value → Shared → Prop} (hb : KBw.bInts b = xk) (hc : KBw.bInts c = yk) (hx : xk ∈ words) (hy : yk ∈ words)
    (h : ∀ (d : Array UInt8) t' k, KBw.bInts d = xk ++ yk → Q (.bytes d t') { s with toks := k }) : wpAny (model prog w) A (binaryOp .Add (.bytes b t) (.bytes c u)) Q E s := by
  have h1 := (word_ok hx).2.1
  have h2 := (word_ok hy).2.1
  subst hb hc
  rw [KBw.ints_length] at h1 h2
  exact KBy.add_bytes (by omega) fun t' k => h _ t' k (ints_app b c)
section
variable {w : World} {p : Program} {loose : List Str} {mean : ExcName → Option Value} {mg mb : Str → Option Value} {kt : Nat → Tok} {tx pt : Array UInt8} {tt tp t60 td tl : Tok} {dep lev : Int} {sa la x dx : Addr} {news rest : List (Addr × Obj)}
theorem wroot_ok {xk : List Int} (ht : KBw.bInts tx = xk) (hw : xk ∈ words) :
    Spec w p loose mean mg mb 283 [.bytes tx tt] news 2 32 (fun news' r => news = news' ∧ ∃ b t, r = .bytes b t ∧ KBw.bInts b = xk.take (rootN xk)) :=
  (law_root_ok ht (word_ok hw).1 (Nat.le_trans (word_ok hw).2.1 (by decide))).mono (fun n r h => by
    obtain ⟨h1, b, t, k, h2, h3, h4, h5, h6, h7⟩ := h
    exact ⟨h1, b, t, h2, by rw [rootN_eq h4 h5 h6 h7]; exact h3⟩) (Nat.le_refl _) (Nat.le_refl _)
theorem wright_ok {xk : List Int} (ht : KBw.bInts tx = xk) (hw : xk ∈ words) :
    Spec w p loose mean mg mb 302 [.bytes tx tt] news 44 512 (fun news' r => news = news' ∧ r = .bool true) :=
  law_right_ok ht (word_ok hw).1 (Nat.le_trans (word_ok hw).2.1 (by decide)) (word_ok hw).2.2 (word_right hw)
theorem wis_ok {xk yk : List Int} {c : Array UInt8} {ty tz : Tok} (ht : KBw.bInts tx = xk ++ yk) (hp : KBw.bInts c = yk ++ xk) (hx : xk ∈ words) (hy : yk ∈ words) :
    Spec w p loose mean mg mb 297 [.bytes tx ty, .bytes c tz] news 41 448 (fun news' r => news = news' ∧ ∃ b : Bool, r = .bool b ∧ (b = true ↔ LitTo (xk ++ yk) (yk ++ xk) 0 (yk ++ xk).length)) :=
  lawL_ok hp (by rw [List.length_append, List.length_append]; omega) (ab_app hy hx) ht (by have := (word_ok hx).2.1; have := (word_ok hy).2.1; rw [List.length_append]; omega)
theorem wspots_ok {xk yk : List Int} {c : Array UInt8} {ty tz : Tok} (ht : KBw.bInts tx = xk ++ yk) (hp : KBw.bInts c = xk.take (rootN xk)) (hx : xk ∈ words) (hy : yk ∈ words) :
    Spec w p loose mean mg mb 290 [.bytes tx ty, .bytes c tz] news 41 448 (fun news' r => ∃ l vs, r = .ref l ∧ news' = (l, W.listOf (List.toArray vs) 0) :: news ∧ IntsAre vs (spotsTo (xk ++ yk) (xk.take (rootN xk)) ((xk ++ yk).length + 1))) := by
  have h1 := (word_ok hx).2.1
  have h2 := (word_ok hy).2.1
  have h3 := root_le hx
  have h4 : 1 ≤ rootN xk := Nat.le_add_left _ _
  have h5 : (xk.take (rootN xk)).length = rootN xk := by rw [List.length_take]; omega
  have hab : ∀ c ∈ xk.take (rootN xk), c = 97 ∨ c = 98 := fun c hc => (word_ok hx).2.2 c (List.mem_of_mem_take hc)
  exact law_spots_ok (nz_of_ab hp hab) hp (by omega) (by omega) hab ht (by rw [List.length_append]; omega)
theorem wword_ok {d : Addr} {o : Obj} {na : Int} {ta : Tok} {vs : List Value} {ns : List Int} {nl : Nat} (hd0 : BagIs w o la na ta) (hlt : @LT.lt Nat _ d la) (hv : IntsAre vs (ns.take 12)) (ha : 0 ≤ na) (ha2 : na ≤ 50) :
    Spec w p loose mean mg mb 276 [.ref d] [(la, W.listOf (List.toArray vs) nl), (d, o)] 10 64 (fun news' r => ∃ o' a' t b t2 xk, news' = [(la, W.listOf (List.toArray vs) nl), (d, o')] ∧ BagIs w o' la a' t ∧ na ≤ a' ∧ a' ≤ na + 5 ∧ r = .bytes b t2 ∧ KBw.bInts b = xk ∧ xk ∈ words) := by
  have hne : la ≠ d := Nat.ne_of_gt hlt
  have U : UpdF d o [(la, W.listOf (List.toArray vs) nl), (d, o)] (fun o' => [(la, W.listOf (List.toArray vs) nl), (d, o')]) := .tail hne (.head fun p hp => nomatch hp)
  refine (law_word_ok U hd0 (.head _) hne hv (by rw [List.length_take]; omega) ha ha2).mono (fun n r h => ?_) (Nat.le_refl _) (Nat.le_refl _)
  obtain ⟨o', a', t, h1, h2, h3, h4, b, t2, ks, mm, h5, h6, h7, h8, h9, h10, h11⟩ := h
  exact ⟨o', a', t, b, t2, _, h1, h2, h3, h4, h5, h6, words_mem h7 h8 h9 h10 h11⟩
end

theorem FlushW1 : True ∧ True := by
  w_top off
  walk1 <;> trivial
theorem kmk_sub_eq {lo hi : Option PySem.Expr} {ps : Pos} {l n : Addr} : subscripted (PySem.Expr.Slice lo hi none ps) false (.ref l) (.ref n) = operate [.ref n, .ref l] (getItem (.ref l) (.ref n)) := by rfl
theorem kmk_two {vs : List Value} {ns ms : List Int} (h : ns.take 2 = ms) (hi : IntsAre vs ns) : IntsAre (slicePick vs.toArray none (some 2) none).toList ms := by
  rw [← h]
  exact kmk_upto hi (by decide)
theorem spots_short {xk yk zk ms : List Int} (_ : (spotsTo (xk ++ yk) zk ((xk ++ yk).length + 1)).take 2 = ms) (hx : xk ∈ words) (hy : yk ∈ words) : (spotsTo (xk ++ yk) zk ((xk ++ yk).length + 1)).length ≤ 30 := by
  have h1 := (word_ok hx).2.1
  have h2 := (word_ok hy).2.1
  refine Nat.le_trans (spots_len _ _ _) ?_
  rw [List.length_append]
  omega
theorem pair_three {xk yk : List Int} (hc : xk.take (rootN xk) = yk.take (rootN yk)) (hx : xk ∈ words) (hy : yk ∈ words) : (spotsTo (xk ++ yk) (xk.take (rootN xk)) ((xk ++ yk).length + 1)).take 2 = [0, ((rootN xk : Nat) : Int)] := pair_two hx hy hc
theorem len_root {prog : Program} {w : World} {A : Around} {E : Value → Shared → Prop} {s : Shared} {b : Array UInt8} {xk : List Int} {t : Tok} {Q : Value → Shared → Prop} (hb : KBw.bInts b = xk.take (rootN xk)) (hx : xk ∈ words)
    (h : Q (.int ((rootN xk : Nat) : Int) (s.toks + 1)) { s with toks := s.toks + 1 + 1 }) : wpAny (model prog w) A (call (.builtin "len") [.bytes b t]) Q E s := by
  have e : (xk.take (rootN xk)).length = rootN xk := by rw [List.length_take, Nat.min_eq_left (root_le hx)]
  have h1 := root_le hx
  have h2 := (word_ok hx).2.1
  refine KBw.len_K hb (by rw [e]; omega) ?_
  rw [e]
  exact h
theorem eq_same {prog : Program} {w : World} {A : Around} {E : Value → Shared → Prop} {s : Shared} {a b : Addr} {vs us : List Value} {ns : List Int} {Q : Value → Shared → Prop} (hl : s.heap.IsList a vs.toArray) (hi : IntsAre vs ns) (hl' : s.heap.IsList b us.toArray) (hi' : IntsAre us ns) (hu : A.units + 64 < cLine)
    (h : Q (.bool true) s) : wpAny (model prog w) A (compareOp .Eq (.ref a) (.ref b)) Q E s :=
  eq_intsK hl hi hl' hi' hu (by rw [decide_eq_true rfl]; exact h)
section
variable {w : World} {p : Program} {loose : List Str} {mean : ExcName → Option Value} {mg mb : Str → Option Value} {kt : Nat → Tok} {tx pt : Array UInt8} {tt tp t60 td tl : Tok} {dep lev : Int} {sa la x dx : Addr} {news rest : List (Addr × Obj)}
local macro_rules | `(tactic| walk_at "ite") => `(tactic| (k_here; k_openite; k_spoken; first
  | (refine ite_pos (by (try simp only [beq_iff_eq, bne_iff_ne, ne_eq, decide_eq_true_eq, Bool.not_eq_true', decide_eq_false_iff_not, beq_eq_false_iff_ne, Bool.and_eq_true, Bool.or_eq_true]); first | assumption | omega) ?_; walk_say "MINE pos")
  | (refine ite_neg (by (try simp only [beq_iff_eq, bne_iff_ne, ne_eq, decide_eq_true_eq, Bool.not_eq_true', decide_eq_false_iff_not, beq_eq_false_iff_ne, Bool.and_eq_true, Bool.or_eq_true]); first | assumption | omega) ?_; walk_say "MINE neg")))
local macro_rules | `(tactic| k_mem) => `(tactic| first | exact List.Mem.head _ | ktr_member | (refine' List.mem_cons_of_mem _ ?_; k_mem))
local macro_rules | `(tactic| k_all) => `(tactic| assumption)
local macro_rules | `(tactic| walk_at "binaryOp Add bytes bytes") => `(tactic| (k_here; (refine' add_K ?k1 ?k2 ?k3 ?k4 ?_; (case k1 => assumption); (case k2 => assumption); (case k3 => assumption); (case k4 => assumption)); intro d9 t9 k9 hd9; (try dsimp only); (try k_sweep)))
local macro_rules | `(tactic| walk_at "call ref") => `(tactic| (k_here; k_dflt (
  refine' spec_use (wword_ok ?hd ?hlt ?hv ?ha ?ha2) ?k1 ?k2 ?k3 ?k4 ?k5 ?kK ?kd ?ku ?_
  (case k1 => k_asm); (case k2 => k_asm); (case k3 => k_asm); (case k4 => k_asm); (case k5 => k_asm); (case kK => first | exact rfl | assumption)
  (case hd => first | assumption | (with_unfolding_all assumption)); (case hlt => assumption); (case hv => assumption); (case ha => omega); (case ha2 => omega); (case kd => ktr_room); (case ku => ktr_units)
  intro r9 n9 h9 tk9 F9 N9 P9
  obtain ⟨o9, a9, t9, b9, t29, x9, e9, hd9, hle9, hle9', e9', hb9, hw9⟩ := P9
  subst e9 e9'
  (try dsimp only); (try k_fold); (try k_sweep))))
local macro_rules | `(tactic| walk_at "call ref") => `(tactic| (k_here; k_dflt (
  refine' spec_use (wright_ok ?ht ?hw) ?k1 ?k2 ?k3 ?k4 ?k5 ?kK ?kd ?ku ?_
  (case k1 => k_asm); (case k2 => k_asm); (case k3 => k_asm); (case k4 => k_asm); (case k5 => k_asm); (case kK => first | exact rfl | assumption)
  (case ht => assumption); (case hw => assumption); (case kd => ktr_room); (case ku => ktr_units)
  intro r9 n9 h9 tk9 F9 N9 P9
  obtain ⟨e9, e9'⟩ := P9
  subst e9 e9'
  (try dsimp only); (try k_fold); (try k_sweep))))
local macro_rules | `(tactic| walk_at "call ref") => `(tactic| (k_here; k_dflt (
  refine' spec_use (wroot_ok ?ht ?hw) ?k1 ?k2 ?k3 ?k4 ?k5 ?kK ?kd ?ku ?_
  (case k1 => k_asm); (case k2 => k_asm); (case k3 => k_asm); (case k4 => k_asm); (case k5 => k_asm); (case kK => first | exact rfl | assumption)
  (case ht => assumption); (case hw => assumption); (case kd => ktr_room); (case ku => ktr_units)
  intro r9 n9 h9 tk9 F9 N9 P9
  obtain ⟨e9, b9, t9, e9', hb9⟩ := P9
  subst e9 e9'
  (try dsimp only); (try k_fold); (try k_sweep))))
local macro_rules | `(tactic| walk_at "call ref") => `(tactic| (k_here; k_dflt (
  refine' spec_use (wis_ok ?ht ?hp ?hx ?hy) ?k1 ?k2 ?k3 ?k4 ?k5 ?kK ?kd ?ku ?_
  (case k1 => k_asm); (case k2 => k_asm); (case k3 => k_asm); (case k4 => k_asm); (case k5 => k_asm); (case kK => first | exact rfl | assumption)
  (case ht => assumption); (case hp => assumption); (case hx => assumption); (case hy => assumption); (case kd => ktr_room); (case ku => ktr_units)
  intro r9 n9 h9 tk9 F9 N9 P9
  obtain ⟨e9, b9, e9', hb9⟩ := P9
  subst e9 e9'
  have hq9 := pair_one (by assumption) (by assumption) hb9 (bytes_beq (by assumption) (by assumption))
  rw [← hq9] at F9
  cases b9 <;> (try have hr9 := (bytes_beq (by assumption) (by assumption)).mp hq9.symm) <;> clear hq9 <;> ((try dsimp only); (try k_fold); (try k_sweep)))))
local macro_rules | `(tactic| walk_at "call ref") => `(tactic| (k_here; k_dflt (
  refine' spec_use (wspots_ok ?ht ?hp ?hx ?hy) ?k1 ?k2 ?k3 ?k4 ?k5 ?kK ?kd ?ku ?_
  (case k1 => k_asm); (case k2 => k_asm); (case k3 => k_asm); (case k4 => k_asm); (case k5 => k_asm); (case kK => first | exact rfl | assumption)
  (case ht => assumption); (case hp => assumption); (case hx => assumption); (case hy => assumption); (case kd => ktr_room); (case ku => ktr_units)
  intro r9 n9 h9 tk9 F9 N9 P9
  obtain ⟨l9, vs9, e9, e9', hv9⟩ := P9
  subst e9 e9'
  have hs9 := pair_three (by assumption) (by assumption) (by assumption)
  have hz9 := spots_short hs9 (by assumption) (by assumption)
  generalize spotsTo _ _ _ = sp9 at hv9 hs9 hz9
  (try dsimp only); (try k_fold); (try k_sweep))))

local macro_rules | `(tactic| walk_at "subscriptTail") => `(tactic| (k_here; (rename (List.take 2 _ = _) => hs9); refine stop_ ?_))
local macro_rules | `(tactic| walk_at "call builtin:len") => `(tactic| (k_here; (with_reducible show wpAny _ _ (call (Value.builtin "len") [Value.bytes _ _]) _ _ _); (refine' len_root ?lr1 ?lr2 ?_; (case lr1 => assumption); (case lr2 => assumption); k_whole); (try dsimp only)))
local macro_rules | `(tactic| walk_at "compareOp Eq ref ref") => `(tactic| (refine stop_ ?_))

set_option maxHeartbeats 8000000 in
theorem law_holds : PySem.Challenge.rw_tk0055_01.Holds := by
  w_on; o_law
  refine holds_open (q := Mine.h0.view_1_2) (loose := []) (Xt := fun s => xlAt Mine.h0.view_1_2 [] s && recOk [] s) (XP := XL Mine.h0.view_1_2 []) (Yf := Hook.obs hook) (Ya := Hook.val hook) (YP := Hook.says hook) (N := 3810) left0 (Hook.of hook) (Hook.keeps hook) (fun s e => xl_of s (Bool.and_eq_true_iff.mp e).1) XL.keeps (by rfl) (by rfl) (by rfl) (fun s e => recFacts_of (Bool.and_eq_true_iff.mp e).2) (by rfl) (by assumption) (by decide +kernel) ⟨rfl, rfl, rfl, rfl, rfl, by decide +kernel⟩ ?hw ?hc
  case hw => w_witness2
  rename (OpenRow.wellSaid _ = true) => hs9
  clear hs9
  k_go0
  all_goals try k_fold
  k_steps
  refine Stop.go ?_
  rename (List.take 2 _ = _) => hs9
  rename (List.length _ ≤ 30) => hz9
  rename IntsAre _ _ => hv9
  refine kba_turn (value' := PySem.Expr.Name (PySem.Str.ofString "_") ⟨0, 0, 0, 0⟩) (fun _ => rfl) ?_
  refine' kmk_slice_ints ?zF ?zN ?zl ?zp ?zq ?zi ?zm ?zc ?_ ?zs ?zt ?zz
  case zF => k_asm
  case zN => k_asm
  case zl => kmk_list
  case zp => kmk_part
  case zq => kmk_part
  case zi => exact hv9
  case zm => exact kmk_two hs9 hv9
  case zc => exact rfl
  case zs => exact kmk_sub_eq
  case zt => kmk_pure
  case zz => exact kmk_sz hv9 (Nat.le_trans hz9 (by rw [sizeLine_eq]; decide))
  clear hs9
  intro D' ws' h' F' N' l1 hI' hC' hL'
  (try k_lt l1)
  (try k_sweep)
  (try dsimp only)
  k_steps
  refine Stop.go ?_
  rename (IntsAre _ [0, _]) => hI9
  refine' eq_same ?zl ?zi ?zl' ?zi' ?zu ?_
  case zl => exact News.isList (by k_asm) (by k_mem)
  case zi => exact hI9
  case zl' => exact News.isList (by k_asm) (by k_mem)
  case zi' => exact .cons _ _ (.cons _ _ .nil)
  case zu => units_room
  k_steps
end

end Mine
set_option maxRecDepth 100000 in
set_option maxHeartbeats 8000000 in
theorem PySem.Challenge.cw_tk0055_01_holds : PySem.Challenge.rw_tk0055_01.Holds := by
  exact Mine.law_holds

