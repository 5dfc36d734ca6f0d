import PyProof.Rows.All
import Wide.All
import OpenK.AllK
import Wide.FinOn
import PySem.Challenge.RW_og0136_01
set_option Elab.async false
set_option maxRecDepth 100000
set_option compiler.extract_closed false
section
open PySem PySem.W PyProof.Rows
namespace Mine
/-- the text's statements that the walk looks at -/
def hview : Program := view PySem.Challenge.pw_og0136_01 [1,2,4,5,7,8,9,10,11,12,13,14,16,17,18,19,20,21]
def hloose : List Str := [Str.ofString "PaperError"]
def hXt (s : Shared) : Bool := xlAt hview [] s && recOk [] s

theorem left_of {p q : Program} {loose : List Str} {Xt : Shared → Bool} {α : Type} {Yf : Shared → α} {Ya : World → α} {N : Nat}
    (e : opening p = plainProg p.main.scope.names) (hN : Nat.ble 600 N = true) (f : ∀ s, fenceModules? p s = some s)
    (h : ∀ (w : World) (os : OsState), Option.map (fun s => (Fast.tw4187177175401517315 q loose (Fast.tw5923862056798008813 p.main.body) Xt true s, Yf s))
      ((Fast.tw14082659384304107361 Fast.tw14364793385576792824 p w (boot_heap w.params).objs.size ((boot_heap w.params).nsMap mainGlobals (Str.ofString "__annotations__")) N ⟨boot_heap w.params, #[], boot_drawn, boot_toks, os⟩ (topStub p)).bind fun s₁ =>
          match staticsOk (Fast.tw5923862056798008813 p.main.body) (boot_heap w.params) s₁.heap && namesBound p s₁.heap && gensDone s₁ && laidKept (boot_heap w.params) s₁.heap with
          | true => some s₁
          | false => none) = some (openGood q loose, Ya w)) : LeftO p q loose Xt Yf Ya N := by
  intro w
  obtain ⟨⟨hp, gs, dr, tk, os⟩, hs, hv⟩ := Option.map_eq_some_iff.mp (boot_open e hN f w)
  obtain ⟨rfl, hv⟩ := Prod.mk.inj hv
  obtain ⟨rfl, hv⟩ := Prod.mk.inj hv
  obtain ⟨rfl, rfl⟩ := Prod.mk.inj hv
  have h := h w os
  rw [← Fast.te5923862056798008813, ← Fast.te4187177175401517315, ← Fast.te14364793385576792824, ← Fast.te14082659384304107361] at h
  show Option.map _ ((fencedOpening treeTable p w N).bind (topFrom treeTable p w N)) = _
  rw [hs]
  show Option.map _ (topFrom treeTable p w N _) = _
  have hb : ∀ P, ((boot_heap P).isNs mainGlobals && (#[] : Array GenState).size == 0) = true := fun P => by kernel_rfl
  unfold topFrom
  rw [show ((boot_heap w.params).isNs mainGlobals && (#[] : Array GenState).size == 0) = true from hb _]
  exact h

theorem hsaid : PySem.Challenge.rw_og0136_01.wellSaid = true := by
  rw [Fast.te9446332074065402090]
  unfold Fast.tw9446332074065402090 Fast.tw17960256430627541270 Fast.tw2436336058641802641 Fast.tw12908688711261696721
  repeat' (with_reducible refine look_both ?_ ?_)
  all_goals decide +kernel

theorem head_of (H : Hook) {d : DefRec} {kwd : List (Str × Expr)}
    (hdef : defOf hview PySem.Challenge.rw_og0136_01.row.name = some (d, kwd))
    (hp : PySem.Challenge.rw_og0136_01.row.prog.theDef PySem.Challenge.rw_og0136_01.row.name = some (d.params, d.body, d.scope))
    (hk : kwWritten? d.params.kwonlyargs d.params.kw_defaults = some kwd)
    (left : LeftO PySem.Challenge.rw_og0136_01.row.prog hview hloose hXt H.obs H.val 2562)
    (k1 : PySem.Challenge.rw_og0136_01.row.wellSaid = true)
    (hw : PySem.Challenge.rw_og0136_01.row.toRowW.promised)
    (hc : WalkO hview hloose (XL hview []) H.says PySem.Challenge.rw_og0136_01.row.toRowW d kwd fun f vs => PySem.call f vs) :
    PySem.Challenge.rw_og0136_01.row.Holds :=
  PySem.W.holds_open left H.of H.keeps (fun s e => xl_of s (Bool.and_eq_true_iff.mp e).1) XL.keeps hdef hp hk (fun s e => recFacts_of (Bool.and_eq_true_iff.mp e).2) (by rfl) k1
    (by decide +kernel) ⟨rfl, rfl, rfl, rfl, rfl, by decide +kernel⟩ hw hc

local macro_rules | `(tactic| o_law) => `(tactic| refine holds_law Mine.hsaid fun said => ?_)
local macro_rules | `(tactic| o_head $H) => `(tactic| (apply Mine.head_of $H; (case hdef => rfl); (case hp => rfl); (case hk => rfl); (case left => exact Mine.left_of (by kernel_rfl) (by kernel_rfl) (fun _ => by kernel_rfl) fun w os => by kernel_rfl); (case k1 => assumption)))
set_option maxHeartbeats 8000000
open_top hd for PySem.Challenge.rw_og0136_01
end Mine
end
section
open PySem PySem.W PyProof.Rows PySem.Calls PySem.Spec
local macro_rules | `(tactic| k_all) => `(tactic| assumption)
section
namespace Mine
abbrev Led := List (Addr × Obj)
/-- what a call of the def at f does, seen from its caller: `post` of what comes back and of the ledger -/
noncomputable def Does (w : World) (f : Addr) (D U : Nat) (news : Led) (vs : List Value) (post : Value → Led → Prop) : Prop :=
  ∀ (mean : ExcName → Option Value) (mg mb : Str → Option Value) (dp un : Nat) (gd : Option (List Code)) (cn : Str) (cs : Scope) (a : Addr) (ccd : Value) (cl : List (Str × Addr)) (outer : List Env)
    (A₀ : Around) (base h₀ : Heap) (L : Addr) (m : Str → Option Value) (s : Shared) (Q E : Value → Shared → Prop),
    Below A₀ base outer h₀ → Fr h₀ L s.heap m → (hd.heap_1 w.params).In h₀ → News h₀ L s.heap news →
    Top hview (looseW hview [Str.ofString "PaperError"]) mean mg mb h₀ → cs.kind = .function →
    dp + D < recursionLimit → un + U < cLine →
    (∀ v news' h' tk', post v news' → Fr h₀ L h' m → News h₀ L h' news' → Q v { s with heap := h', toks := tk' }) →
    wpAny (model PySem.Challenge.rw_og0136_01.row.prog w) (ktrTop dp un gd cn cs L a ccd cl outer) (call (.ref f) vs) Q E s
/-- the same, with all that it speaks of named -/
noncomputable def DoesB (w : World) (f : Addr) (D U : Nat) (news : Led) (vs : List Value) (post : Value → Led → Prop) (mean : ExcName → Option Value) (mg mb : Str → Option Value) (dp un : Nat) (gd : Option (List Code)) (cn : Str) (cs : Scope) (a : Addr) (ccd : Value) (cl : List (Str × Addr)) (outer : List Env)
    (A₀ : Around) (base h₀ : Heap) (L : Addr) (m : Str → Option Value) (s : Shared) (Q E : Value → Shared → Prop) : Prop :=
    Below A₀ base outer h₀ → Fr h₀ L s.heap m → (hd.heap_1 w.params).In h₀ → News h₀ L s.heap news →
    Top hview (looseW hview [Str.ofString "PaperError"]) mean mg mb h₀ → cs.kind = .function →
    dp + D < recursionLimit → un + U < cLine →
    (∀ v news' h' tk', post v news' → Fr h₀ L h' m → News h₀ L h' news' → Q v { s with heap := h', toks := tk' }) →
    wpAny (model PySem.Challenge.rw_og0136_01.row.prog w) (ktrTop dp un gd cn cs L a ccd cl outer) (call (.ref f) vs) Q E s

/-- the pen: its cells, the count, what is left of a cell -/
inductive PenIs (news : Led) (pen : Addr) (rest : Led) : Prop
  | mk (cl : Addr) (k : Int) (tk : Tok) (r : Int) (tr : Tok) (vs : List Value) (ns : List Int) (n : Nat) (e : news = (pen, W.listOf #[.ref cl, .int k tk, .int r tr] 0) :: (cl, W.listOf vs.toArray n) :: rest) (hI : IntsAre vs ns) (hl : vs.length ≤ 100) (hne : @Ne Nat pen cl) (h1 : ∀ p ∈ rest, p.1 ≠ pen) (h2 : ∀ p ∈ rest, p.1 ≠ cl) : PenIs news pen rest
/-- two addresses differ: a fact that is hidden from arithmetic -/
noncomputable def NeA (a b : Nat) : Prop := a ≠ b
theorem NeA.symm {a b : Nat} (h : NeA a b) : NeA b a := fun e => h e.symm
end Mine
namespace Mine
theorem does_use {w : World} {f : Addr} {D U : Nat} {news : Led} {vs : List Value} {post : Value → Led → Prop} (C : Does w f D U news vs post) {mean : ExcName → Option Value} {mg mb : Str → Option Value} {dp un : Nat} {gd : Option (List Code)} {cn : Str} {cs : Scope} {a : Addr} {ccd : Value} {cl : List (Str × Addr)} {outer : List Env}
    {A₀ : Around} {base h₀ : Heap} {L : Addr} {m : Str → Option Value} {s : Shared} {Q E : Value → Shared → Prop}
    (B : Below A₀ base outer h₀) (F : Fr h₀ L s.heap m) (X : (hd.heap_1 w.params).In h₀) (N : News h₀ L s.heap news) (T : Top hview (looseW hview [Str.ofString "PaperError"]) mean mg mb h₀) (hk : cs.kind = .function)
    (hd : dp + D < recursionLimit) (hu : un + U < cLine)
    (ret : ∀ v news' h' tk', post v news' → Fr h₀ L h' m → News h₀ L h' news' → Q v { s with heap := h', toks := tk' }) :
    wpAny (model PySem.Challenge.rw_og0136_01.row.prog w) (ktrTop dp un gd cn cs L a ccd cl outer) (call (.ref f) vs) Q E s :=
  C _ _ _ _ _ _ _ _ _ _ _ _ _ _ _ _ _ _ _ _ B F X N T hk hd hu ret
theorem news_sub {h₀ h : Heap} {L : Addr} {news news' : Led} (N : News h₀ L h news) (hs : ∀ p ∈ news', p ∈ news) : News h₀ L h news' := fun p hp => N p (hs p hp)
end Mine
namespace Mine
theorem does_pure {w : World} {f : Addr} {D U : Nat} {news : Led} {vs : List Value} {P : Value → Prop} (C : Does w f D U news vs (fun v news' => P v ∧ news' = news)) {mean : ExcName → Option Value} {mg mb : Str → Option Value} {dp un : Nat} {gd : Option (List Code)} {cn : Str} {cs : Scope} {a : Addr} {ccd : Value} {cl : List (Str × Addr)} {outer : List Env}
    {A₀ : Around} {base h₀ : Heap} {L : Addr} {m : Str → Option Value} {s : Shared} {Q E : Value → Shared → Prop}
    (B : Below A₀ base outer h₀) (F : Fr h₀ L s.heap m) (X : (hd.heap_1 w.params).In h₀) (N : News h₀ L s.heap news) (T : Top hview (looseW hview [Str.ofString "PaperError"]) mean mg mb h₀) (hk : cs.kind = .function)
    (hd : dp + D < recursionLimit) (hu : un + U < cLine)
    (ret : ∀ v h' tk', P v → Fr h₀ L h' m → News h₀ L h' news → Q v { s with heap := h', toks := tk' }) :
    wpAny (model PySem.Challenge.rw_og0136_01.row.prog w) (ktrTop dp un gd cn cs L a ccd cl outer) (call (.ref f) vs) Q E s :=
  C _ _ _ _ _ _ _ _ _ _ _ _ _ _ _ _ _ _ _ _ B F X N T hk hd hu fun v news' h' tk' p F' N' => ret v h' tk' p.1 F' (p.2 ▸ N')
end Mine
namespace Mine
/-- a row of the table -/
structure Ent where
  key : Int
  way : Str
  one : Int
  two : Int
noncomputable def wayS : Nat → Str
  | 0 => Str.ofString "free"
  | 1 => Str.ofString "used"
  | _ => Str.ofString "packed"
/-- the dict of an Entry -/
noncomputable def entD (w : World) (way : Str) (one two : Int) (a1 a2 a3 a4 a5 a6 : Tok) : Obj :=
  dictOf [⟨PyData.keyHash w.params (Str.ofString "way"), .str (Str.ofString "way") a1, .str way a2⟩, ⟨PyData.keyHash w.params (Str.ofString "one"), .str (Str.ofString "one") a3, .int one a4⟩, ⟨PyData.keyHash w.params (Str.ofString "two"), .str (Str.ofString "two") a5, .int two a6⟩] 3
inductive MadeEnt (w : World) (way : Str) (one two : Int) (news : Led) (v : Value) (news' : Led) : Prop
  | mk (x d : Addr) (a1 a2 a3 a4 a5 a6 : Tok) (e : v = .ref x) (e2 : news' = (x, instObj 38 d) :: (d, entD w way one two a1 a2 a3 a4 a5 a6) :: news) (h1 : ∀ p ∈ news, @LT.lt Nat _ p.1 d) (h2 : @LT.lt Nat _ d x) : MadeEnt w way one two news v news'
inductive DrawPost (many : Int) (pen : Addr) (rest : Led) (v : Value) (news' : Led) : Prop
  | mk (d : Int) (td : Tok) (e : v = .int d td) (h0 : 0 ≤ d) (h1 : d < many) (P : PenIs news' pen rest) : DrawPost many pen rest v news'
inductive TupPost (a b c : Int) (news : Led) (v : Value) (news' : Led) : Prop
  | mk (x : Addr) (t1 t2 t3 : Tok) (e : v = .ref x) (e2 : news' = (x, { cls := .type "tuple", data := .seq #[.int a t1, .int b t2, .int c t3] }) :: news) (h : ∀ p ∈ news, @LT.lt Nat _ p.1 x) : TupPost a b c news v news'
end Mine
end
section
namespace Mine
/-- a turn's end: the ledger stands beside the iterator's own object -/
noncomputable def TurnEnd (h₀ : Heap) (L I : Addr) (oI : Obj) (src : Led) (Jn : (Str → Option Value) → Led → Prop) (s₁ : Shared) (Q : Flow → Shared → Prop) (f : Flow) (s₃ : Shared) : Prop :=
  match f with
  | .ret v => Q (.ret v) s₃
  | .brk => Q .next s₃
  | _ => ∃ h' tk' m' news', s₃ = { s₁ with heap := h', toks := tk' } ∧ Fr h₀ L h' m' ∧ News h₀ L h' ((I, oI) :: news') ∧ (∀ p ∈ src, p ∈ news') ∧ (∀ p ∈ news', @Ne Nat p.1 I) ∧ Jn m' news'

theorem TurnEnd.next {h₀ h' : Heap} {L I : Addr} {oI : Obj} {src news' : Led} {Jn : (Str → Option Value) → Led → Prop} {s₁ : Shared} {Q : Flow → Shared → Prop} {tk' : Nat} {m' : Str → Option Value}
    (F : Fr h₀ L h' m') (N : News h₀ L h' ((I, oI) :: news')) (hs : ∀ p ∈ src, p ∈ news') (ho : ∀ p ∈ news', @Ne Nat p.1 I) (hj : Jn m' news') : TurnEnd h₀ L I oI src Jn s₁ Q .next { s₁ with heap := h', toks := tk' } :=
  ⟨h', tk', m', news', rfl, F, N, hs, ho, hj⟩

section
variable {prog : Program} {w : World} {A : Around} {E : Value → Shared → Prop} {s : Shared} {env : Env} {h₀ : Heap} {x : Str} {body : List Stmt} {Q : Flow → Shared → Prop} {m : Str → Option Value} {news : Led}

theorem loop_at {I : Addr} {fp : List Addr} {n : Nat} {P : Nat → Value → Prop} {St : Nat → Heap → Prop} (src : Led) (J : Nat → (Str → Option Value) → Led → Prop) (W : Walks prog w A I fp [I] n P St)
    (hfp : ∀ b ∈ fp, b = I ∨ ∃ o, (b, o) ∈ src) (hLI : env.locals ≠ I) (hI₀ : h₀.get? I = none) (hIo : ∀ i h, St i h → ∃ o, h.get? I = some o) (hst : St 0 s.heap) (F : Fr h₀ env.locals s.heap m) (N : News h₀ env.locals s.heap news)
    (hsrc : ∀ p ∈ src, p ∈ news) (hoff : ∀ p ∈ news, @Ne Nat p.1 I) (h0 : J 0 m news)
    (turn : ∀ i v m₁ news₁ oI h tk, i < n → P i v → J i m₁ news₁ → (∀ p ∈ src, p ∈ news₁) → (∀ p ∈ news₁, @Ne Nat p.1 I) → Fr h₀ env.locals h (fun y => if y = x then some v else m₁ y) → News h₀ env.locals h ((I, oI) :: news₁) →
      wpAny (model prog w) A (execs body env) (TurnEnd h₀ env.locals I oI src (J (i + 1)) { s with heap := h, toks := tk } Q) E { s with heap := h, toks := tk })
    (done : ∀ h tk m' news', J n m' news' → (∀ p ∈ src, p ∈ news') → Fr h₀ env.locals h m' → News h₀ env.locals h news' → Q .next { s with heap := h, toks := tk }) :
    LoopAtV prog w A h₀ env x body Q E (.ref I) s := by
  refine ⟨I, fp, [I], n, P, St, m, news, fun i m l => (∀ p ∈ src, p ∈ l) ∧ J i m l, rfl, W, ?_, ?_, ?_, hst, F, N, ⟨hsrc, h0⟩, ?_, ?_⟩
  · intro hm
    rcases hfp _ hm with h | ⟨o, h⟩
    · exact hLI h
    · exact (N _ (hsrc _ h)).2.1 rfl
  · intro b hb; rw [List.mem_singleton.mp hb]; exact hI₀
  · intro p hp hm; exact hoff p hp (List.mem_singleton.mp hm)
  · rintro i v m₁ news₁ s₁ own ⟨h, tk, rfl⟩ hi hP ⟨hs, hJ⟩ hnw hown hown' hin hst₁ F₁ N₁
    have hIf : I ∈ fp := W.sub I (List.mem_singleton.mpr rfl)
    obtain ⟨oI, heI⟩ := hIo _ _ hst₁
    have hIown : (I, oI) ∈ own := hin I hIf hI₀ oI heI
    have hoff₁ : ∀ p ∈ news₁, @Ne Nat p.1 I := fun p hp e => hnw p hp (List.mem_singleton.mpr e)
    have N₂ : News h₀ env.locals h ((I, oI) :: news₁) := fun p hp => by
      rcases List.mem_cons.mp hp with rfl | hp
      · exact N₁ _ (List.mem_append_left _ hIown)
      · exact N₁ _ (List.mem_append_right _ hp)
    refine wpAny_mono (turn i v m₁ news₁ oI h tk hi hP hJ hs hoff₁ F₁ N₂) (fun f s₃ h₃ => ?_) fun _ _ e => e
    have fin : (∃ h' tk' m' news', s₃ = { ({ s with heap := h, toks := tk } : Shared) with heap := h', toks := tk' } ∧ Fr h₀ env.locals h' m' ∧ News h₀ env.locals h' ((I, oI) :: news') ∧ (∀ p ∈ src, p ∈ news') ∧ (∀ p ∈ news', @Ne Nat p.1 I) ∧ J (i + 1) m' news') →
        LoopStepU h₀ env.locals [I] own (fun m l => (∀ p ∈ src, p ∈ l) ∧ J (i + 1) m l) { s with heap := h, toks := tk } .next s₃ := by
      rintro ⟨h', tk', m', news', e, F', N', hs', ho', hj'⟩
      refine ⟨rfl, h', tk', m', news', e, F', fun p hp => ?_, fun p hp hm => ho' p hp (List.mem_singleton.mp hm), hs', hj'⟩
      rcases List.mem_append.mp hp with hp | hp
      · have z := hown' p hp
        rcases hfp _ (hown p hp) with e1 | ⟨o, ho⟩
        · have e2 : p = (I, oI) := by
            obtain ⟨b, o⟩ := p
            have e3 : b = I := e1
            subst e3
            have z' : h.get? b = some o := z
            rw [show h.get? b = some oI from heI] at z'
            rw [Option.some.inj z']
          rw [e2]; exact N' _ (.head _)
        · have z2 := (N₁ _ (List.mem_append_right _ (hs _ ho))).1
          have e2 : p = (p.1, o) := by
            have z' : h.get? p.1 = some p.2 := z
            have z3 : h.get? p.1 = some o := z2
            rw [z3] at z'
            exact Prod.ext rfl (Option.some.inj z').symm
          rw [e2]; exact N' _ (.tail _ (hs' _ ho))
      · exact N' _ (.tail _ hp)
    cases f with
    | ret v => exact .ret h₃
    | brk => exact .brk h₃
    | next => exact .next (fin h₃)
    | cont => exact .cont (fin h₃)
  · rintro h' tk m' news' F' N' hnw ⟨hs, hJ⟩
    exact done h' tk m' news' hJ hs F' N'

theorem fresh_off (N : News h₀ env.locals s.heap news) : ∀ p ∈ news, @Ne Nat p.1 s.heap.objs.size := fun p hp => Nat.ne_of_lt (Heap.lt_size (N p hp).1)

/-- for over a list of the ledger -/
theorem iter_list {l : Addr} {its : Array Value} {ep : Nat} (J : (Str → Option Value) → Nat → (Str → Option Value) → Led → Prop) (hh : A.handled = none) (F : Fr h₀ env.locals s.heap m) (N : News h₀ env.locals s.heap news) (hm : (l, W.listOf its ep) ∈ news) (h0 : J m 0 m news)
    (turn : ∀ i v m₁ news₁ I oI h tk (QT : Flow → Shared → Prop), (∀ f s₃, TurnEnd h₀ env.locals I oI [(l, W.listOf its ep)] (J m (i + 1)) { s with heap := h, toks := tk } Q f s₃ → QT f s₃) → its[i]? = some v → J m i m₁ news₁ → (l, W.listOf its ep) ∈ news₁ → (∀ p ∈ news₁, @Ne Nat p.1 I) → Fr h₀ env.locals h (fun y => if y = x then some v else m₁ y) → News h₀ env.locals h ((I, oI) :: news₁) →
      wpAny (model prog w) A (execs body env) QT E { s with heap := h, toks := tk })
    (done : ∀ h tk m' news', J m its.size m' news' → (l, W.listOf its ep) ∈ news' → Fr h₀ env.locals h m' → News h₀ env.locals h news' → Q .next { s with heap := h, toks := tk }) :
    wpAny (model prog w) A (pyIter (.ref l)) (fun it s₂ => LoopAtV prog w A h₀ env x body Q E it s₂) E s := by
  have hl : s.heap.IsList l its := PySem.IsL.isList (n := ep) (N _ hm).1
  have hlt : l < s.heap.objs.size := Heap.lt_size (N _ hm).1
  refine wpAny_pyIter_list hl ?_
  refine loop_at [(l, W.listOf its ep)] (J m) (Walks.list hh s.heap.objs.size l (Nat.ne_of_lt hlt) its) ?_ (Nat.ne_of_lt F.ns.lt) (next_is_new F) (fun i h st => by obtain ⟨o, e, _⟩ := st.1; exact ⟨o, e⟩)
    ⟨⟨_, Heap.get?_push_size _ rfl, rfl, rfl⟩, hl.push _⟩ (F.push _) (fun p hp => ⟨Heap.get?_push_of_some _ (N p hp).1, (N p hp).2⟩) ?_ (fresh_off N) h0 ?_ ?_
  · intro b hb
    rcases List.mem_cons.mp hb with e | hb
    · exact .inl e
    · rw [List.mem_singleton.mp hb]; exact .inr ⟨_, List.mem_singleton.mpr rfl⟩
  · intro p hp; rw [List.mem_singleton.mp hp]; exact hm
  · intro i v m₁ news₁ oI h tk hi hP hJ hs ho F₁ N₁
    exact turn i v m₁ news₁ _ oI h tk _ (fun _ _ x => x) hP hJ (hs _ (List.mem_singleton.mpr rfl)) ho F₁ N₁
  · intro h tk m' news' hJ hs F' N'
    exact done h tk m' news' hJ (hs _ (List.mem_singleton.mpr rfl)) F' N'

/-- for over a dict's keys -/
theorem iter_dict {K : Type} [DecidableEq K] {knd : KeyKind prog w K} {d : Addr} {o : Obj} {kvs : List (K × Value)} (J : (Str → Option Value) → Nat → (Str → Option Value) → Led → Prop) (hh : A.handled = none) (F : Fr h₀ env.locals s.heap m) (N : News h₀ env.locals s.heap news)
    (hm : (d, o) ∈ news) (hd : o.IsDictOf knd kvs) (lo : (d == sysModules) = false) (h0 : J m 0 m news)
    (turn : ∀ i v k y m₁ news₁ I oI h tk (QT : Flow → Shared → Prop), (∀ f s₃, TurnEnd h₀ env.locals I oI [(d, o)] (J m (i + 1)) { s with heap := h, toks := tk } Q f s₃ → QT f s₃) → kvs[i]? = some (k, y) → knd.is k v = true → J m i m₁ news₁ → (d, o) ∈ news₁ → (∀ p ∈ news₁, @Ne Nat p.1 I) → Fr h₀ env.locals h (fun y => if y = x then some v else m₁ y) → News h₀ env.locals h ((I, oI) :: news₁) →
      wpAny (model prog w) A (execs body env) QT E { s with heap := h, toks := tk })
    (done : ∀ h tk m' news', J m kvs.length m' news' → (d, o) ∈ news' → Fr h₀ env.locals h m' → News h₀ env.locals h news' → Q .next { s with heap := h, toks := tk }) :
    wpAny (model prog w) A (pyIter (.ref d)) (fun it s₂ => LoopAtV prog w A h₀ env x body Q E it s₂) E s := by
  obtain ⟨ep, ha⟩ := KdkAt.of hd
  have hda := ha.dictAt (N _ hm).1
  have hlt : d < s.heap.objs.size := Heap.lt_size (N _ hm).1
  refine wpAny_pyIter_dict lo hda ?_
  refine loop_at [(d, o)] (J m) (Walks.dictKeys (knd := knd) hh s.heap.objs.size d (Nat.ne_of_lt hlt) kvs ep) ?_ (Nat.ne_of_lt F.ns.lt) (next_is_new F) (fun i h st => by obtain ⟨o, e, _⟩ := st.1; exact ⟨o, e⟩)
    ⟨⟨_, Heap.get?_push_size _ rfl, rfl, rfl⟩, hda.at' fun o e => Heap.get?_push_of_some _ e⟩ (F.push _) (fun p hp => ⟨Heap.get?_push_of_some _ (N p hp).1, (N p hp).2⟩) ?_ (fresh_off N) h0 ?_ ?_
  · intro b hb
    rcases List.mem_cons.mp hb with e | hb
    · exact .inl e
    · rw [List.mem_singleton.mp hb]; exact .inr ⟨_, List.mem_singleton.mpr rfl⟩
  · intro p hp; rw [List.mem_singleton.mp hp]; exact hm
  · rintro i v m₁ news₁ oI h tk hi ⟨k, y, hk, hv⟩ hJ hs ho F₁ N₁
    exact turn i v k y m₁ news₁ _ oI h tk _ (fun _ _ x => x) hk hv hJ (hs _ (List.mem_singleton.mpr rfl)) ho F₁ N₁
  · intro h tk m' news' hJ hs F' N'
    exact done h tk m' news' hJ (hs _ (List.mem_singleton.mpr rfl)) F' N'

/-- for over a range -/
theorem iter_range {r : Addr} {a b c : Int} {t u v : Tok} {n : Nat} (J : (Str → Option Value) → Nat → (Str → Option Value) → Led → Prop) (hh : A.handled = none) (hr : IsRange s.heap r a b c t u v) (hsm : Builtin.Range.small a b c = true) (hn : Builtin.Range.rangeSize a b c = ((n : Nat) : Int))
    (F : Fr h₀ env.locals s.heap m) (N : News h₀ env.locals s.heap news) (h0 : J m 0 m news)
    (turn : ∀ i t m₁ news₁ I oI h tk (QT : Flow → Shared → Prop), (∀ f s₃, TurnEnd h₀ env.locals I oI [] (J m (i + 1)) { s with heap := h, toks := tk } Q f s₃ → QT f s₃) → i < n → J m i m₁ news₁ → (∀ p ∈ news₁, @Ne Nat p.1 I) → Fr h₀ env.locals h (fun y => if y = x then some (.int (a + (i : Int) * c) t) else m₁ y) → News h₀ env.locals h ((I, oI) :: news₁) →
      wpAny (model prog w) A (execs body env) QT E { s with heap := h, toks := tk })
    (done : ∀ h tk m' news', J m n m' news' → Fr h₀ env.locals h m' → News h₀ env.locals h news' → Q .next { s with heap := h, toks := tk }) :
    wpAny (model prog w) A (pyIter (.ref r)) (fun it s₂ => LoopAtV prog w A h₀ env x body Q E it s₂) E s := by
  refine wpAny_pyIter_range hr hsm ?_
  refine loop_at [] (J m) (Walks.range hh s.heap.objs.size a c n) ?_ (Nat.ne_of_lt F.ns.lt) (next_is_new F) (fun i h st => ⟨_, st⟩)
    (by show IsRangeIter _ _ _ _ _; rw [hn]; simpa using Heap.get?_push_size _ rfl) (F.push _) (fun p hp => ⟨Heap.get?_push_of_some _ (N p hp).1, (N p hp).2⟩) (fun p hp => nomatch hp) (fresh_off N) h0 ?_ ?_
  · intro b hb; exact .inl (List.mem_singleton.mp hb)
  · rintro i v m₁ news₁ oI h tk hi ⟨t, rfl⟩ hJ hs ho F₁ N₁
    exact turn i t m₁ news₁ _ oI h tk _ (fun _ _ x => x) hi hJ ho F₁ N₁
  · intro h tk m' news' hJ hs F' N'
    exact done h tk m' news' hJ F' N'

/-- for over bytes -/
theorem iter_bytes {b : Array UInt8} {tb : Tok} (J : (Str → Option Value) → Nat → (Str → Option Value) → Led → Prop) (hh : A.handled = none) (F : Fr h₀ env.locals s.heap m) (N : News h₀ env.locals s.heap news) (h0 : J m 0 m news)
    (turn : ∀ i c t m₁ news₁ I oI h tk (QT : Flow → Shared → Prop), (∀ f s₃, TurnEnd h₀ env.locals I oI [] (J m (i + 1)) { s with heap := h, toks := tk } Q f s₃ → QT f s₃) → b[i]? = some c → J m i m₁ news₁ → (∀ p ∈ news₁, @Ne Nat p.1 I) → Fr h₀ env.locals h (fun y => if y = x then some (.int (c.toNat : Int) t) else m₁ y) → News h₀ env.locals h ((I, oI) :: news₁) →
      wpAny (model prog w) A (execs body env) QT E { s with heap := h, toks := tk })
    (done : ∀ h tk m' news', J m b.size m' news' → Fr h₀ env.locals h m' → News h₀ env.locals h news' → Q .next { s with heap := h, toks := tk }) :
    wpAny (model prog w) A (pyIter (.bytes b tb)) (fun it s₂ => LoopAtV prog w A h₀ env x body Q E it s₂) E s := by
  refine KBw.pyIter_bytes ?_
  refine loop_at [] (J m) (KBw.walks (prog := prog) (w := w) hh s.heap.objs.size b tb) ?_ (Nat.ne_of_lt F.ns.lt) (next_is_new F) (fun i h st => by obtain ⟨o, e, _⟩ := st; exact ⟨o, e⟩)
    ⟨_, Heap.get?_push_size _ rfl, rfl, rfl⟩ (F.push _) (fun p hp => ⟨Heap.get?_push_of_some _ (N p hp).1, (N p hp).2⟩) (fun p hp => nomatch hp) (fresh_off N) h0 ?_ ?_
  · intro b hb; exact .inl (List.mem_singleton.mp hb)
  · rintro i v m₁ news₁ oI h tk hi ⟨c, t, hc, rfl⟩ hJ hs ho F₁ N₁
    exact turn i c t m₁ news₁ _ oI h tk _ (fun _ _ x => x) hc hJ ho F₁ N₁
  · intro h tk m' news' hJ hs F' N'
    exact done h tk m' news' hJ F' N'
end
end Mine
namespace Mine
theorem fr1 {h₀ h : Heap} {L : Addr} {m₁ m₀ : Str → Option Value} {x y : Str} {v u : Value} (F : Fr h₀ L h (fun z => if z = x then some v else m₁ z)) (h1 : m₁ y = some u) (h2 : ∀ z, z ≠ x → z ≠ y → m₁ z = m₀ z) :
    Fr h₀ L h (fun z => if z = x then some v else if z = y then some u else m₀ z) := by
  have e : (fun z => if z = x then some v else m₁ z) = fun z => if z = x then some v else if z = y then some u else m₀ z := by
    funext z
    by_cases hx : z = x
    · simp [hx]
    · simp only [if_neg hx]
      by_cases hy : z = y
      · subst hy; simp [h1]
      · simp only [if_neg hy]; exact h2 z hx hy
  rw [← e]; exact F
theorem fr2 {h₀ h : Heap} {L : Addr} {m₁ m₀ : Str → Option Value} {x y y2 : Str} {v u u2 : Value} (F : Fr h₀ L h (fun z => if z = x then some v else m₁ z)) (h1 : m₁ y = some u) (h3 : m₁ y2 = some u2) (h2 : ∀ z, z ≠ x → z ≠ y → z ≠ y2 → m₁ z = m₀ z) :
    Fr h₀ L h (fun z => if z = x then some v else if z = y then some u else if z = y2 then some u2 else m₀ z) := by
  have e : (fun z => if z = x then some v else m₁ z) = fun z => if z = x then some v else if z = y then some u else if z = y2 then some u2 else m₀ z := by
    funext z
    by_cases hx : z = x
    · simp [hx]
    · simp only [if_neg hx]
      by_cases hy : z = y
      · subst hy; simp [h1]
      · simp only [if_neg hy]
        by_cases hy2 : z = y2
        · subst hy2; simp [h3]
        · simp only [if_neg hy2]; exact h2 z hx hy hy2
  rw [← e]; exact F
theorem fr3 {h₀ h : Heap} {L : Addr} {m₁ m₀ : Str → Option Value} {x y y2 y3 : Str} {v u u2 u3 : Value} (F : Fr h₀ L h (fun z => if z = x then some v else m₁ z)) (h1 : m₁ y = some u) (h3 : m₁ y2 = some u2) (h4 : m₁ y3 = some u3)
    (h2 : ∀ z, z ≠ x → z ≠ y → z ≠ y2 → z ≠ y3 → m₁ z = m₀ z) :
    Fr h₀ L h (fun z => if z = x then some v else if z = y then some u else if z = y2 then some u2 else if z = y3 then some u3 else m₀ z) := by
  have e : (fun z => if z = x then some v else m₁ z) = fun z => if z = x then some v else if z = y then some u else if z = y2 then some u2 else if z = y3 then some u3 else m₀ z := by
    funext z
    by_cases hx : z = x
    · simp [hx]
    · simp only [if_neg hx]
      by_cases hy : z = y
      · subst hy; simp [h1]
      · simp only [if_neg hy]
        by_cases hy2 : z = y2
        · subst hy2; simp [h3]
        · simp only [if_neg hy2]
          by_cases hy3 : z = y3
          · subst hy3; simp [h4]
          · simp only [if_neg hy3]; exact h2 z hx hy hy2 hy3
  rw [← e]; exact F
end Mine
namespace Mine
theorem fro0 {h₀ h : Heap} {L : Addr} {m₁ m₀ : Str → Option Value} {x : Str} (F : Fr h₀ L h m₁) (h2 : ∀ z, z ≠ x → m₁ z = m₀ z) :
    Fr h₀ L h (fun z => if z = x then m₁ x else m₀ z) := by
  have e : m₁ = fun z => if z = x then m₁ x else m₀ z := by
    funext z
    by_cases hx : z = x
    · simp [hx]
    · simp only [if_neg hx]; exact h2 z hx
  exact e ▸ F
theorem fro1 {h₀ h : Heap} {L : Addr} {m₁ m₀ : Str → Option Value} {x y : Str} {u : Value} (F : Fr h₀ L h m₁) (h1 : m₁ y = some u) (h2 : ∀ z, z ≠ x → z ≠ y → m₁ z = m₀ z) :
    Fr h₀ L h (fun z => if z = x then m₁ x else if z = y then some u else m₀ z) := by
  have e : m₁ = fun z => if z = x then m₁ x else if z = y then some u else m₀ z := by
    funext z
    by_cases hx : z = x
    · simp [hx]
    · simp only [if_neg hx]
      by_cases hy : z = y
      · subst hy; simp [h1]
      · simp only [if_neg hy]; exact h2 z hx hy
  exact e ▸ F
theorem fro2 {h₀ h : Heap} {L : Addr} {m₁ m₀ : Str → Option Value} {x y y2 : Str} {u u2 : Value} (F : Fr h₀ L h m₁) (h1 : m₁ y = some u) (h3 : m₁ y2 = some u2) (h2 : ∀ z, z ≠ x → z ≠ y → z ≠ y2 → m₁ z = m₀ z) :
    Fr h₀ L h (fun z => if z = x then m₁ x else if z = y then some u else if z = y2 then some u2 else m₀ z) := by
  have e : m₁ = fun z => if z = x then m₁ x else if z = y then some u else if z = y2 then some u2 else m₀ z := by
    funext z
    by_cases hx : z = x
    · simp [hx]
    · simp only [if_neg hx]
      by_cases hy : z = y
      · subst hy; simp [h1]
      · simp only [if_neg hy]
        by_cases hy2 : z = y2
        · subst hy2; simp [h3]
        · simp only [if_neg hy2]; exact h2 z hx hy hy2
  exact e ▸ F
theorem fro3 {h₀ h : Heap} {L : Addr} {m₁ m₀ : Str → Option Value} {x y y2 y3 : Str} {u u2 u3 : Value} (F : Fr h₀ L h m₁) (h1 : m₁ y = some u) (h3 : m₁ y2 = some u2) (h4 : m₁ y3 = some u3) (h2 : ∀ z, z ≠ x → z ≠ y → z ≠ y2 → z ≠ y3 → m₁ z = m₀ z) :
    Fr h₀ L h (fun z => if z = x then m₁ x else if z = y then some u else if z = y2 then some u2 else if z = y3 then some u3 else m₀ z) := by
  have e : m₁ = fun z => if z = x then m₁ x else if z = y then some u else if z = y2 then some u2 else if z = y3 then some u3 else m₀ z := by
    funext z
    by_cases hx : z = x
    · simp [hx]
    · simp only [if_neg hx]
      by_cases hy : z = y
      · subst hy; simp [h1]
      · simp only [if_neg hy]
        by_cases hy2 : z = y2
        · subst hy2; simp [h3]
        · simp only [if_neg hy2]
          by_cases hy3 : z = y3
          · subst hy3; simp [h4]
          · simp only [if_neg hy3]; exact h2 z hx hy hy2 hy3
  exact e ▸ F
end Mine
namespace Mine
theorem led_1 {h₀ h : Heap} {L D : Addr} {o : Obj} {news : Led} (N : News h₀ L h ((D, o) :: news)) : ∃ D', D' = D ∧ News h₀ L h ((D', o) :: news) := ⟨D, rfl, N⟩
theorem led_2 {h₀ h : Heap} {L D : Addr} {o : Obj} {p : Addr × Obj} {news : Led} (N : News h₀ L h (p :: (D, o) :: news)) : ∃ D', D' = D ∧ News h₀ L h (p :: (D', o) :: news) := ⟨D, rfl, N⟩
theorem led_3 {h₀ h : Heap} {L D : Addr} {o : Obj} {p q : Addr × Obj} {news : Led} (N : News h₀ L h (p :: q :: (D, o) :: news)) : ∃ D', D' = D ∧ News h₀ L h (p :: q :: (D', o) :: news) := ⟨D, rfl, N⟩
theorem allLt_mem {d : Addr} : ∀ {l : Led}, AllLt d l → ∀ p ∈ l, p.1 < d
  | [], _, _, h => nomatch h
  | _ :: _, ⟨a, b⟩, p, h => by
    rcases List.mem_cons.mp h with rfl | h
    · exact a
    · exact allLt_mem b p h
theorem allLt_ne {d : Addr} {l : Led} (h : AllLt d l) : ∀ p ∈ l, @Ne Nat p.1 d := fun p hp => Nat.ne_of_lt (allLt_mem h p hp)
theorem range_small {a b : Int} (h1 : -100000 ≤ a) (h2 : a ≤ 100000) (h3 : -100000 ≤ b) (h4 : b ≤ 100000) : Builtin.Range.small a b 1 = true := by apply small_one <;> omega
theorem range_size {a b : Int} (h : a ≤ b) : Builtin.Range.rangeSize a b 1 = (((b - a).toNat : Nat) : Int) := by rw [rangeSize_one]; split <;> omega
end Mine
namespace Mine
noncomputable def upd : List (Str × Option Value) → (Str → Option Value) → Str → Option Value
  | [], m, z => m z
  | p :: r, m, z => if z = p.1 then p.2 else upd r m z
noncomputable def AtAll (m : Str → Option Value) : List (Str × Option Value) → Prop
  | [] => True
  | p :: r => m p.1 = p.2 ∧ AtAll m r
noncomputable def Off (z : Str) : List (Str × Option Value) → Prop
  | [] => True
  | p :: r => z ≠ p.1 ∧ Off z r
structure Like (x : Str) (m₀ m₁ : Str → Option Value) (ps : List (Str × Option Value)) : Prop where
  at_ : AtAll m₁ ps
  off : ∀ z, z ≠ x → Off z ps → m₁ z = m₀ z
theorem upd_eq {m₁ m₀ : Str → Option Value} : ∀ {ps : List (Str × Option Value)} {z : Str}, AtAll m₁ ps → (Off z ps → m₁ z = m₀ z) → m₁ z = upd ps m₀ z
  | [], _, _, h2 => h2 trivial
  | p :: r, z, h1, h2 => by
    unfold upd
    by_cases hz : z = p.1
    · rw [if_pos hz, hz]; exact h1.1
    · rw [if_neg hz]; exact upd_eq h1.2 fun ho => h2 ⟨hz, ho⟩
theorem Like.turn {h₀ h : Heap} {L : Addr} {x : Str} {m₀ m₁ : Str → Option Value} {ps : List (Str × Option Value)} {v : Value} (k : Like x m₀ m₁ ps) (F : Fr h₀ L h (fun z => if z = x then some v else m₁ z)) : Fr h₀ L h (fun z => if z = x then some v else upd ps m₀ z) := by
  have e : (fun z => if z = x then some v else m₁ z) = fun z => if z = x then some v else upd ps m₀ z := by
    funext z
    by_cases hx : z = x
    · simp [hx]
    · simp only [if_neg hx]; exact upd_eq k.at_ (k.off z hx)
  rw [← e]; exact F
theorem Like.out {h₀ h : Heap} {L : Addr} {x : Str} {m₀ m₁ : Str → Option Value} {ps : List (Str × Option Value)} (k : Like x m₀ m₁ ps) (F : Fr h₀ L h m₁) : Fr h₀ L h (fun z => if z = x then m₁ x else upd ps m₀ z) := by
  have e : m₁ = fun z => if z = x then m₁ x else upd ps m₀ z := by
    funext z
    by_cases hx : z = x
    · simp [hx]
    · simp only [if_neg hx]; exact upd_eq k.at_ (k.off z hx)
  exact e ▸ F
theorem Like.start {x : Str} {m₀ : Str → Option Value} {ps : List (Str × Option Value)} (h : AtAll m₀ ps) : Like x m₀ m₀ ps := ⟨h, fun _ _ _ => rfl⟩
end Mine
end
section
namespace Mine
section
variable {prog : Program} {w : World} {A : Around} {E : Value → Shared → Prop} {s : Shared} {h₀ : Heap} {L l : Addr} {news : Led} {its : List Value} {c : Nat}
theorem len_lst {Q : Value → Shared → Prop} (N : News h₀ L s.heap news) (hm : (l, W.listOf its.toArray c) ∈ news) (hfit : its.length ≤ 16384)
    (h : Q (.int (its.length : Int) (s.toks + 1)) { s with toks := s.toks + 1 + 1 }) : wpAny (model prog w) A (call (.builtin "len") [.ref l]) Q E s :=
  kst_len N hm rfl (by omega) h
theorem item_lst {value slice : PySem.Expr} {k : Int} {u : Tok} {Q : Value → Shared → Prop} (N : News h₀ L s.heap news) (hm : (l, W.listOf its.toArray c) ∈ news) (h0 : 0 ≤ k) (h1 : k < its.length) (hfit : its.length ≤ 16384)
    (h : ∀ v, v ∈ its → its[k.toNat]? = some v → Q v s) (hs : subscripted slice false (.ref l) (.int k u) = operate [.ref l, .int k u] (getItem (.ref l) (.int k u)) := by with_unfolding_all rfl) :
    wpAny (model prog w) A (subscriptTail value slice (.ref l) (.int k u)) Q E s := by
  have hl : s.heap.IsList l its.toArray := ⟨_, (N _ hm).1, rfl, c, rfl⟩
  have hk : k.toNat < its.length := by omega
  have hx : its[k.toNat]? = some its[k.toNat] := List.getElem?_eq_getElem hk
  exact tail_any hl.typeIs slot_list_getitem.lookup (wpAny_getItem_list hl h0 (by omega) (x := its[k.toNat]) (by simpa using hx) (h _ (List.getElem_mem hk) hx)) hs
end
end Mine
namespace Mine
theorem fit100 {α : Type} {vs : List α} (h : vs.length ≤ 100) : vs.toArray.size ≤ sizeLine := by rw [List.size_toArray]; exact Nat.le_trans h (by decide +kernel)
theorem fit100' {α : Type} {vs : List α} (h : vs.length ≤ 100) : vs.length ≤ sizeLine := Nat.le_trans h (by decide +kernel)
end Mine
namespace Mine
section
variable {prog : Program} {w : World} {A : Around} {E : Value → Shared → Prop} {s : Shared} {h₀ : Heap} {L l : Addr} {news : Led} {its : List Value} {c : Nat}
theorem item_lit {value slice : PySem.Expr} {k : Int} {u : Tok} {v : Value} {Q : Value → Shared → Prop} (N : News h₀ L s.heap news) (hm : (l, W.listOf its.toArray c) ∈ news) (h0 : 0 ≤ k) (hfit : k < 2 ^ 63) (hx : its[k.toNat]? = some v)
    (h : Q v s) (hs : subscripted slice false (.ref l) (.int k u) = operate [.ref l, .int k u] (getItem (.ref l) (.int k u)) := by with_unfolding_all rfl) :
    wpAny (model prog w) A (subscriptTail value slice (.ref l) (.int k u)) Q E s := by
  have hl : s.heap.IsList l its.toArray := ⟨_, (N _ hm).1, rfl, c, rfl⟩
  exact tail_any hl.typeIs slot_list_getitem.lookup (wpAny_getItem_list hl h0 hfit (x := v) (by simpa using hx) h) hs
end
end Mine
namespace Mine
theorem ints_small {b : Array UInt8} (h : b.size ≤ 1000) : (KBw.bInts b).length ≤ 16777216 := by rw [KBw.ints_length]; omega
theorem picked_small {b : Array UInt8} {lo hi : Option Int} {n : Nat} (h : b.size ≤ n) : (KBy.picked b lo hi).size ≤ n := Nat.le_trans (KBc.size_picked_le b lo hi) h
theorem cut_eq {α : Type} (l : List α) (i j : Nat) : (l.drop (min i l.length)).take (min j l.length - min i l.length) = (l.drop i).take (j - i) := by
  by_cases h : i ≤ l.length
  · rw [Nat.min_eq_left h]
    by_cases h2 : j ≤ l.length
    · rw [Nat.min_eq_left h2]
    · rw [Nat.min_eq_right (by omega : l.length ≤ j), List.take_of_length_le (by simp), List.take_of_length_le (by simp; omega)]
  · rw [Nat.min_eq_right (by omega : l.length ≤ i), List.drop_length, List.drop_of_length_le (by omega : l.length ≤ i)]
    simp
theorem picked_to (b : Array UInt8) (k : Nat) : KBy.picked b none (some (k : Int)) = (b.toList.take k).toArray := by
  rw [KBc.picked_eq]
  simp only [Option.elim, clipAt_nat, List.drop_zero, Nat.sub_zero]
  congr 1
  rw [← Array.length_toList, ← List.take_eq_take_min]
theorem picked_mid (b : Array UInt8) (i j : Nat) : KBy.picked b (some (i : Int)) (some (j : Int)) = ((b.toList.drop i).take (j - i)).toArray := by
  rw [KBc.picked_eq]
  simp only [Option.elim, clipAt_nat]
  congr 1
  rw [← Array.length_toList, cut_eq]
theorem picked_from (b : Array UInt8) (i : Nat) : KBy.picked b (some (i : Int)) none = (b.toList.drop i).toArray := by
  rw [KBc.picked_eq]
  simp only [Option.elim, clipAt_nat]
  congr 1
  rw [← Array.length_toList]
  have h := cut_eq b.toList i b.toList.length
  rw [Nat.min_self] at h
  rw [h, List.take_of_length_le (by simp)]
end Mine
end
section
namespace Mine
abbrev prg : Program := PySem.Challenge.rw_og0136_01.row.prog
/-- an Entry stands at x -/
noncomputable def EntAt (w : World) (news : Led) (x : Addr) (e : Ent) : Prop :=
  ∃ (d : Addr) (a1 a2 a3 a4 a5 a6 : Tok), (x, instObj 38 d) ∈ news ∧ (d, entD w e.way e.one e.two a1 a2 a3 a4 a5 a6) ∈ news
inductive EntsAt (w : World) (news : Led) : List (Int × Value) → List Ent → Prop
  | nil : EntsAt w news [] []
  | cons {x : Addr} {e : Ent} {kvs : List (Int × Value)} {es : List Ent} : EntAt w news x e → EntsAt w news kvs es → EntsAt w news ((e.key, .ref x) :: kvs) (e :: es)
/-- the dict of the entries -/
structure EntTab (w : World) (news : Led) (D : Addr) (oD : Obj) (kvs : List (Int × Value)) (es : List Ent) : Prop where
  mem : (D, oD) ∈ news
  dict : oD.IsDictOf (PySem.intKind prg w) kvs
  lo : (D == sysModules) = false
  ents : EntsAt w news kvs es
theorem EntAt.mono {w : World} {news news' : Led} {x : Addr} {e : Ent} (h : EntAt w news x e) (hs : ∀ p ∈ news, p ∈ news') : EntAt w news' x e := by
  obtain ⟨d, a1, a2, a3, a4, a5, a6, h1, h2⟩ := h
  exact ⟨d, a1, a2, a3, a4, a5, a6, hs _ h1, hs _ h2⟩
theorem EntsAt.mono {w : World} {news news' : Led} {kvs : List (Int × Value)} {es : List Ent} (h : EntsAt w news kvs es) (hs : ∀ p ∈ news, p ∈ news') : EntsAt w news' kvs es := by
  induction h with
  | nil => exact .nil
  | cons a _ ih => exact .cons (a.mono hs) ih
theorem EntTab.mono {w : World} {news news' : Led} {D : Addr} {oD : Obj} {kvs : List (Int × Value)} {es : List Ent} (h : EntTab w news D oD kvs es) (hs : ∀ p ∈ news, p ∈ news') : EntTab w news' D oD kvs es :=
  ⟨hs _ h.mem, h.dict, h.lo, h.ents.mono hs⟩
theorem EntsAt.length {w : World} {news : Led} {kvs : List (Int × Value)} {es : List Ent} (h : EntsAt w news kvs es) : kvs.length = es.length := by
  induction h with
  | nil => rfl
  | cons _ _ ih => simp [ih]
theorem EntsAt.keys {w : World} {news : Led} {kvs : List (Int × Value)} {es : List Ent} (h : EntsAt w news kvs es) : kvs.map (·.1) = es.map (·.key) := by
  induction h with
  | nil => rfl
  | cons _ _ ih => simp [ih]
theorem EntsAt.get {w : World} {news : Led} {kvs : List (Int × Value)} {es : List Ent} (h : EntsAt w news kvs es) : ∀ {i : Nat} {k : Int} {y : Value}, kvs[i]? = some (k, y) → ∃ (e : Ent) (x : Addr), es[i]? = some e ∧ e.key = k ∧ y = .ref x ∧ EntAt w news x e := by
  induction h with
  | nil => intro i k y h; simp at h
  | @cons x e kvs es a _ ih =>
    intro i k y h
    cases i with
    | zero => simp at h; exact ⟨e, x, by simp, h.1, h.2.symm, a⟩
    | succ i => simp at h; obtain ⟨e', x', h1, h2, h3, h4⟩ := ih h; exact ⟨e', x', by simpa using h1, h2, h3, h4⟩
theorem EntsAt.snoc {w : World} {news : Led} {kvs : List (Int × Value)} {es : List Ent} (h : EntsAt w news kvs es) {x : Addr} {e : Ent} (a : EntAt w news x e) : EntsAt w news (kvs ++ [(e.key, .ref x)]) (es ++ [e]) := by
  induction h with
  | nil => exact .cons a .nil
  | cons b _ ih => exact .cons b ih
theorem EntTab.at {w : World} {news : Led} {D : Addr} {oD : Obj} {kvs : List (Int × Value)} {es : List Ent} (h : EntTab w news D oD kvs es) {i : Nat} {k : Int} {y : Value} (hx : kvs[i]? = some (k, y)) : valueAt kvs k = some y :=
  valueAt_of_get (keysNodup_of_isDictOf h.dict) hx
/-- a row of the table of tuples -/
noncomputable def tupD (way : Str) (one two : Int) (a1 a2 a3 : Tok) : Obj := { cls := .type "tuple", data := .seq #[.str way a1, .int one a2, .int two a3] }
end Mine
end
section
open Builtin Builtin.ObjectAttr
namespace Mine
abbrev excObj (t : Addr) : Obj := { cls := .ref 87, data := .fields #[.ref t, .none, .none, .none, .bool false, .none] }
abbrev tupObj (vs : List Value) : Obj := { cls := .type "tuple", data := .seq vs.toArray }
abbrev tailE : List Value := [.ref 74, .type "Exception", .type "BaseException", .type "object"]
noncomputable def excIn87 (K : Frag) : Bool := match K.lookup 87 with
  | some ⟨.type "type", none, .cls cd, sl⟩ => (match sl.toList with
    | [_, _, _, _, some (.builtin n), _] => cd.mro == (.ref 87 :: tailE) && n == "Exception.__new__" && !cd.hasDel && cd.ns == 86 && cd.hasDict
    | _ => false)
  | _ => false
theorem excIn87_obj {K : Frag} (e : excIn87 K = true) : ∃ nm q bs sn sub ab col k0 k1 k2 k3 k5, K.lookup 87 = some (excClassObj nm q 87 86 bs tailE true sn sub ab col none k0 k1 k2 k3 k5 "Exception.__new__") := by
  unfold excIn87 at e
  split at e
  · rename_i cd sl ho
    split at e
    · rename_i k0 k1 k2 k3 n k5 hs
      simp only [Bool.and_eq_true, beq_iff_eq, Bool.not_eq_true'] at e
      obtain ⟨⟨⟨⟨hm, hn⟩, hdel⟩, hns⟩, hdc⟩ := e
      obtain ⟨nm, bs, mro, ns, qn, hd, sn, sub, ab, col, del⟩ := cd
      dsimp only at hm hdel hns hdc
      subst hm hdel hn hns hdc
      have hsl : sl = #[k0, k1, k2, k3, some (.builtin "Exception.__new__"), k5] := by
        obtain ⟨l⟩ := sl
        simp only at hs
        rw [hs]
      subst hsl
      exact ⟨_, _, _, _, _, _, _, _, _, _, _, _, ho⟩
    · cases e
  · cases e
theorem fault_in (w : World) : excIn87 (hd.heap_1 w.params) = true := by kernel_rfl
theorem fault_init (w : World) : findIn (hd.heap_1 w.params) (.ref 87) "__init__" = some (some (.ref 64)) := by kernel_rfl
theorem fault_fn (w : World) : typeIn (hd.heap_1 w.params) (.ref 64) = some (.type "function") := by kernel_rfl
theorem fault_set (w : World) : findIn (hd.heap_1 w.params) (.ref 87) "__setattr__" = some (some (.builtin "object.__setattr__")) := by kernel_rfl
theorem fault_what (w : World) : findIn (hd.heap_1 w.params) (.ref 87) "what" = some none := by kernel_rfl
theorem fault_at (w : World) : findIn (hd.heap_1 w.params) (.ref 87) "at" = some none := by kernel_rfl

section
variable {prog : Program} {w : World} {A : Around} {E : Value → Shared → Prop} {R : Result → Shared → Prop} {h : Heap} {g : Array GenState} {d : Drawn} {t : Nat} {os : OsState} {C N : Addr}
variable {nm q : Str} {bs : List Value} {sn : List Str} {sub : List Value} {ab : Bool} {col : Option Bool} {dd : Option Addr} {k0 k1 k2 k3 k5 : Option Value}
theorem tail_has : tailE.contains (.type "Exception") = true := by decide
theorem tail_base : tailE.contains (.type "BaseException") = true := by decide
theorem tail_attr : tailE.contains (.type "AttributeError") = false := by decide
theorem tail_name : tailE.contains (.type "NameError") = false := by decide
theorem exc_check_new {M : Model} {rest : List Value} {Q : Unit → Shared → Prop} (hC : h.get? C = some (excClassObj nm q C N bs tailE true sn sub ab col dd k0 k1 k2 k3 k5 "Exception.__new__"))
    (hq : Q () ⟨h, g, d, t, os⟩) : wpAny M A (checkBuiltinCall "Exception.__new__" ⟨.ref C :: rest, []⟩) Q E ⟨h, g, d, t, os⟩ := by
  have F := PySem.F.excBase_Exception
  have hcont : (Value.ref C :: tailE).contains (.type "Exception") = true := by rw [List.contains_cons, tail_has, Bool.or_true]
  have hstar := F.noStar
  simp only [checkBuiltinCall, F.newKind, F.newSplit, F.newRow]
  repeat (first | refine wpAny_loadPart_at hC ?_ | (refine wpAny_isSubtype_exc hC ?_; rw [hcont]) | refine wpAny_staticBase_exc hC ?_ | refine wpAny_madeBy_exc hC ?_ | simp only [bne_self_eq_false, Bool.false_eq_true, if_false] | wp_step)
  exact hq
theorem exc_new {rest : List Value} (hC : h.get? C = some (excClassObj nm q C N bs tailE true sn sub ab col dd k0 k1 k2 k3 k5 "Exception.__new__")) (hrest : rest.length ≤ sizeLine)
    (hq : R (.ok (.ret (.ref (h.objs.size + 1)))) ⟨(h.push (tupObj rest)).push { cls := .ref C, data := .fields #[.ref h.objs.size, .none, .none, .none, .bool false, .none] }, g, d, t, os⟩) :
    codeAny (model prog w) A (.builtin "Exception.__new__" ⟨.ref C :: rest, []⟩) R ⟨h, g, d, t, os⟩ := by
  have F := PySem.F.excBase_Exception
  have hends := F.ends
  have hcB : (Value.ref C :: tailE).contains (.type "Exception") = true := by rw [List.contains_cons, tail_has, Bool.or_true]
  have hcA : (Value.ref C :: tailE).contains (.type "AttributeError") = false := by rw [List.contains_cons, tail_attr]; rfl
  have hcN : (Value.ref C :: tailE).contains (.type "NameError") = false := by rw [List.contains_cons, tail_name]; rfl
  refine codeAny_builtinAt F.entry ?_
  unfold Builtin.«BaseException.__new__»
  refine PySem.wpAt_bind ?_
  show PySem.wpAt _ _ _ (stack >>= _) _ _ _
  refine PySem.wpAt_bind (PySem.wpAt_stack fun p below => PySem.wpAt_of_wpAny ?_)
  wp_walk
  refine PySem.wpAt_of_wpAny ?_
  rw [F.owner]
  repeat (first | with_reducible refine wpAny_madeHere_exc F.canon hC ?_ | with_reducible refine wpAny_loadPart_at hC ?_ | (with_reducible refine wpAny_isSubtype_exc hC ?_; first | rw [hcB] | rw [hcA] | rw [hcN]) | wp_step)
  show R _ _
  rw [Heap.size_push]
  exact hq
end

section
variable {w : World} {A : Around} {E : Value → Shared → Prop} {R : Result → Shared → Prop} {h : Heap} {g : Array GenState} {d : Drawn} {t : Nat} {os : OsState}
theorem fault_type_call {rest : List Value} {Q : Fin → Shared → Prop} (X : (hd.heap_1 w.params).In h) (hrest : rest.length ≤ sizeLine)
    (hq : wpAny (model prg w) A (call (.ref 64) (.ref (h.objs.size + 1) :: rest)) (fun v s' => v = .none ∧ Q (.done (.ret (.ref (h.objs.size + 1)))) s') E ⟨(h.push (tupObj rest)).push (excObj h.objs.size), g, d, t, os⟩) :
    wpAny (model prg w) A (Builtin.«type.__call__» ⟨.ref 87 :: rest, []⟩) Q E ⟨h, g, d, t, os⟩ := by
  obtain ⟨nm, q, bs, sn, sub, ab, col, k0, k1, k2, k3, k5, ho⟩ := excIn87_obj (fault_in w)
  have hC := X _ _ ho
  have F := PySem.F.excBase_Exception
  repeat (first | with_reducible refine wpAny_loadPart_at hC ?_ | with_reducible refine wpAny_madeBy_exc hC ?_ | wp_step)
  refine codeAny_call_builtin_code (Code.quiet_builtin _ F.quiet) (exc_check_new hC ?_)
  refine exc_new hC hrest ?_
  show wpAny _ _ _ _ _ _
  have kp : ∀ b o, h.get? b = some o → ((h.push (tupObj rest)).push (excObj h.objs.size)).get? b = some o := fun b o e => Heap.get?_push_of_some _ (Heap.get?_push_of_some _ e)
  have hC₁ := kp _ _ hC
  have hget : ((h.push (tupObj rest)).push (excObj h.objs.size)).get? (h.objs.size + 1) = some (excObj h.objs.size) := by heap_get
  have hcC : (Value.ref 87 :: tailE).contains (.ref 87) = true := by decide
  have X₁ : (hd.heap_1 w.params).In ((h.push (tupObj rest)).push (excObj h.objs.size)) := fun b o e => kp b o (X b o e)
  unfold isInstance
  repeat (first | with_reducible refine wpAny_loadPart_at hget ?_ | (with_reducible refine wpAny_isSubtype_exc hC₁ ?_; rw [hcC]) | wp_step)
  show wpAny _ _ (typeLookup (.ref 87) _) _ _ _
  refine (looks_findIn X₁ (fault_init w)).at ?_
  refine wpAny_holding (wpAny_bind ((bind_fn X₁ _ (fault_fn w)).at ?_))
  refine wpAny_bind (wpAny_mono hq (fun v s' z => ?_) fun _ _ z => z)
  obtain ⟨rfl, z⟩ := z
  wp_walk
  exact z
theorem fault_call {s : Shared} {rest : List Value} {Q : Value → Shared → Prop} (X : (hd.heap_1 w.params).In s.heap) (hrest : rest.length ≤ sizeLine)
    (hq : wpAny (model prg w) (A.under (.builtin "type.__call__" ⟨.ref 87 :: rest, []⟩)) (call (.ref 64) (.ref (s.heap.objs.size + 1) :: rest)) (fun v s' => v = .none ∧ Q (.ref (s.heap.objs.size + 1)) s') E { s with heap := (s.heap.push (tupObj rest)).push (excObj s.heap.objs.size) }) :
    wpAny (model prg w) A (call (.ref 87) rest) Q E s := by
  obtain ⟨h, g, d, t, os⟩ := s
  obtain ⟨nm, q, bs, sn, sub, ab, col, k0, k1, k2, k3, k5, ho⟩ := excIn87_obj (fault_in w)
  have hC := X _ _ ho
  have f1 := tc_lookup
  have f2 := tc_bind (.ref 87)
  have hT : (⟨h, g, d, t, os⟩ : Shared).TypeIs (.ref 87) "type" := ⟨_, hC, rfl⟩
  refine wpAny_call (codeAny_of_tree ?_)
  show wpAny _ _ (callAny (.ref 87) _) _ _ _
  repeat (any_goals (first | assumption | with_reducible refine wpAny_loadPart_at hC ?_ | wp_step))
  refine ⟨rfl, ?_⟩
  refine codeAny_call_builtin_at (Code.quiet_builtin _ (by decide +kernel)) entry_typeCall (wpAny_check_type_call_sub hC (fault_type_call X hrest ?_))
  exact hq
theorem fault_K {s : Shared} {h₀ : Heap} {L : Addr} {m : Str → Option Value} {news : Led} {rest : List Value} {Q : Value → Shared → Prop} (F : Fr h₀ L s.heap m) (X₀ : (hd.heap_1 w.params).In h₀) (N : News h₀ L s.heap news) (hrest : rest.length ≤ sizeLine)
    (hq : ∀ x t h', Fr h₀ L h' m → News h₀ L h' ((x, excObj t) :: (t, tupObj rest) :: news) → (∀ p ∈ news, @LT.lt Nat _ p.1 t) → @LT.lt Nat _ t x →
      wpAny (model prg w) (A.under (.builtin "type.__call__" ⟨.ref 87 :: rest, []⟩)) (call (.ref 64) (.ref x :: rest)) (fun v s' => v = .none ∧ Q (.ref x) s') E { s with heap := h' }) :
    wpAny (model prg w) A (call (.ref 87) rest) Q E s := by
  refine fault_call (X₀.keeps F.keep) hrest (hq _ s.heap.objs.size _ ((F.push _).push _) ?_ (fun p hp => Heap.lt_size (N p hp).1) (Nat.lt_succ_self _))
  have := (N.push F (tupObj rest)).push (F.push _) (excObj s.heap.objs.size)
  rwa [Heap.size_push] at this
end
end Mine
end
section
open Builtin Builtin.ObjectAttr
namespace Mine
section
variable {w : World} {A : Around} {E : Value → Shared → Prop} {h : Heap} {g : Array GenState} {d : Drawn} {t : Nat} {os : OsState} {C N : Addr}
variable {nm q : Str} {bs : List Value} {sn : List Str} {sub : List Value} {ab : Bool} {col : Option Bool} {dd : Option Addr} {k0 k1 k2 k3 k5 : Option Value}
theorem exc_check_init {M : Model} {e : Addr} {oe : Obj} {rest : List Value} {Q : Unit → Shared → Prop}
    (hC : h.get? C = some (excClassObj nm q C N bs tailE true sn sub ab col dd k0 k1 k2 k3 k5 "Exception.__new__")) (he : h.get? e = some oe) (hcls : oe.cls = .ref C) (hq : Q () ⟨h, g, d, t, os⟩) :
    wpAny M A (checkBuiltinCall "Exception.__init__" ⟨.ref e :: rest, []⟩) Q E ⟨h, g, d, t, os⟩ := by
  have F := PySem.F.excBase_Exception
  have hcB : (Value.ref C :: tailE).contains (.type "Exception") = true := by rw [List.contains_cons, tail_has, Bool.or_true]
  have hshort := F.noStar
  simp only [checkBuiltinCall, F.initKind, F.initSplit, F.initRow]
  repeat (first | (with_reducible refine wpAny_loadPart_at he ?_; rw [hcls]) | with_reducible refine wpAny_loadPart_at hC ?_ | (with_reducible refine wpAny_isSubtype_exc hC ?_; rw [hcB]) | wp_step)
  refine wpAny_onRaise ?_
  rw [show ∀ (a b : String) (n : Nat), Bind.check ⟨.positional, "*", "Exception", .self, [⟨"args", .varPos, false⟩]⟩ a b n (List.map (fun x => x.fst) ({ pos := Value.ref e :: rest } : Args).kw) = pure () from
    fun a b n => check_star_args _ _ _ _ _ _]
  exact wpAny_pure hq
theorem exc_init {s : Shared} {e : Addr} {ob : Obj} {vs : Array Value} {t0 : Addr} {rest : List Value} {Q : Value → Shared → Prop} (X : (hd.heap_1 w.params).In s.heap)
    (he : s.heap.get? e = some ob) (hcls : ob.cls = .ref 87) (hdt : ob.data = .fields vs) (h0 : vs[0]? = some (.ref t0)) (hrest : rest.length ≤ sizeLine)
    (hQ : Q .none { s with heap := (s.heap.push (tupObj rest)).update e (Obj.mapFields (·.setIfInBounds 0 (.ref s.heap.objs.size))) }) :
    wpAny (model prg w) A (call (.builtin "Exception.__init__") (.ref e :: rest)) Q E s := by
  obtain ⟨nm, q, bs, sn, sub, ab, col, k0, k1, k2, k3, k5, ho⟩ := excIn87_obj (fault_in w)
  have hC := X _ _ ho
  have F := PySem.F.excBase_Exception
  obtain ⟨h, g, d, t, os⟩ := s
  refine wpAny_call (codeAny_call_builtin F.init.plain F.initEntry (exc_check_init hC he hcls ?_))
  unfold Builtin.«BaseException.__init__»
  dsimp only
  rw [if_neg (by simp)]
  unfold newTuple Builtin.BaseException.bexcPut
  have hsz : 0 < vs.size := (Array.getElem?_eq_some_iff.mp h0).1
  have he₁ := Heap.get?_push_of_some (h := h) { cls := .type "tuple", data := .seq rest.toArray } he
  refine wpAny_bind (wpAny_newObj_type (wpAny_bind (wpAny_bind (wpAny_field he₁ hdt h0 (wpAny_bind (wpAny_setField he₁ hdt hsz ?_))))) (by show rest.toArray.size ≤ sizeLine; rw [List.size_toArray]; exact hrest))
  exact wpAny_letGo (wpAny_pure hQ)
end
section
variable {w : World} {A : Around} {E : Value → Shared → Prop} {s : Shared} {h₀ : Heap} {L x t : Addr} {m : Str → Option Value} {news : Led}
theorem exc_init_K {rest : List Value} {Q : Value → Shared → Prop} (F : Fr h₀ L s.heap m) (X₀ : (hd.heap_1 w.params).In h₀) (N : News h₀ L s.heap ((x, excObj t) :: news)) (hx : ∀ p ∈ news, @Ne Nat p.1 x) (hrest : rest.length ≤ sizeLine)
    (hQ : ∀ t2 h', Fr h₀ L h' m → News h₀ L h' ((x, excObj t2) :: (t2, tupObj rest) :: news) → (∀ p ∈ news, @LT.lt Nat _ p.1 t2) → @LT.lt Nat _ x t2 → Q .none { s with heap := h' }) :
    wpAny (model prg w) A (call (.builtin "Exception.__init__") (.ref x :: rest)) Q E s := by
  have N2 := N.push F (tupObj rest)
  have hxs : @LT.lt Nat _ x s.heap.objs.size := Heap.lt_size (N _ (.head _)).1
  obtain ⟨U1, U2⟩ := news_upd (f := Obj.mapFields (·.setIfInBounds 0 (.ref s.heap.objs.size))) (pre := [(s.heap.objs.size, tupObj rest)]) (post := news) (d := x) (o := excObj t) (o' := excObj s.heap.objs.size) (F.push _) N2
    (fun p hp => by rw [List.mem_singleton.mp hp]; exact Nat.ne_of_gt hxs) hx rfl rfl
  refine exc_init (X₀.keeps F.keep) (N _ (.head _)).1 rfl rfl rfl hrest (hQ _ _ U1 (fun p hp => U2 p ?_) (fun p hp => Heap.lt_size (N p (.tail _ hp)).1) hxs)
  rcases List.mem_cons.mp hp with rfl | hp
  · exact .tail _ (.head _)
  · rcases List.mem_cons.mp hp with rfl | hp
    · exact .head _
    · exact .tail _ (.tail _ hp)
end
end Mine
end
section
open Builtin Builtin.ObjectAttr
namespace Mine
theorem putL_len (name : Str) (hsh : Int) (key v : Value) : ∀ es : List DictEntry, (putL name hsh key v es).length ≤ es.length + 1
  | [] => by simp [putL]
  | e :: r => by
    have := putL_len name hsh key v r
    unfold putL
    split <;> simp <;> omega
abbrev excObjD (t d : Addr) : Obj := { cls := .ref 87, dict := some d, data := .fields #[.ref t, .none, .none, .none, .bool false, .none] }
theorem refuse_tail (self : Value) : refuseLoop self "__setattr__" (.ref 87 :: tailE) = pure () := by
  rw [refuseLoop_ref, refuseLoop_ref]; exact PySem.F.store_Exception.passes self
section
variable {w : World} {A : Around} {E : Value → Shared → Prop} {s : Shared} {h₀ : Heap} {L x t : Addr} {m : Str → Option Value} {news : Led} {R : Result → Shared → Prop}
theorem fault_cls (w : World) : ∃ cd, clsIn (hd.heap_1 w.params) 87 = some cd ∧ cd.mro = .ref 87 :: tailE ∧ cd.hasDict = true := by
  obtain ⟨nm, q, bs, sn, sub, ab, col, k0, k1, k2, k3, k5, ho⟩ := excIn87_obj (fault_in w)
  exact ⟨_, by unfold clsIn; rw [ho], rfl, rfl⟩
theorem exc_open {ox : Obj} {od : Option Obj} {name : Str} {tk : Tok} {v : Value} (X : (hd.heap_1 w.params).In s.heap) (I : InstAt s.heap x ox 87 od) (ht : findIn (hd.heap_1 w.params) (.ref 87) name = some none)
    (h : wpAny (model prg w) A.in1 (storeInOwnDict (.ref x) (.ref 87) (.str name tk) name v false)
      (fun fin s' => match fin with | .done f => R (.ok f) s' | .again c' => c'.quiet = true ∧ codeAny (model prg w) A c' R s') (fun e s' => R (.error e) s') s) :
    codeAny (model prg w) A (.call (.builtin "object.__setattr__") ⟨[.ref x, .str name tk, v], []⟩) R s := by
  have SF := PySem.F.store_object
  obtain ⟨cd, hc, hm, -⟩ := fault_cls w
  have ne : cd.mro.isEmpty = false := by rw [hm]; rfl
  have sub : Looks (model prg w) s.heap (isInstance (.ref x) (.type "object")) true := I.type.andThen (looks_mroIn X (by unfold mroIn; rw [hc, Option.bind_some, if_neg (by rw [ne]; decide), hm]; decide))
  refine codeAny_call_builtin SF.slot.plain SF.entry (@check_slot (model prg w) _ _ s "object.__setattr__" "object" "__setattr__" (.ref x) [.str name tk, v] [] _ SF.kind SF.split sub (SF.args (.ref x) (.str name tk) v) ?_)
  have hm : Looks (model prg w) s.heap (mroOf (.ref 87)) (.ref 87 :: tailE) := hm ▸ (looks_clsIn X hc).andThen .now
  rw [osa_eq, refuse_eq]
  refine wpAny_bind (wpAny_bind (I.type.here (wpAny_bind (hm.here ?_))))
  rw [refuse_tail]
  exact wpAny_pure (wpAny_bind (I.type.here (wpAny_bind ((looks_findIn X ht).here h))))
theorem exc_put {Q : PySem.Fin → Shared → Prop} {d : Addr} {es : List DictEntry} {n : Nat} {name : Str} {v : Value} (F : Fr h₀ L s.heap m) (N : News h₀ L s.heap ((x, excObjD t d) :: (d, dictOf es n) :: news)) (hxd : @Ne Nat x d) (hdn : ∀ p ∈ news, @Ne Nat p.1 d)
    (hr : es.any (·.refKey) = false) (hz : es.length ≤ 10)
    (hQ : ∀ h' tk tk2, Fr h₀ L h' m → News h₀ L h' ((x, excObjD t d) :: (d, dictOf (putL name (PyData.keyHash w.params name) (.str name tk2) v es) (putN name es n)) :: news) → Q (.done (.ret .none)) { s with heap := h', toks := tk }) :
    wpAny (model prg w) A (do nsSet d name v; lookBehind d (some (.str name 0)); ret .none) Q E s := by
  obtain ⟨U1, U2⟩ := news_upd (f := Obj.putName name (PyData.keyHash w.params name) (.str name s.toks) v) (pre := [(x, excObjD t d)]) (post := news) F N
    (fun p hp => by rw [List.mem_singleton.mp hp]; exact hxd) hdn (putName_dict _ _ _ _ _ _) rfl
  have D := (N _ (.tail _ (.head _))).1
  have D' := (U2 _ (.tail _ (.head _))).1
  refine wpAny_bind ?_
  unfold nsSet
  refine wpAny_bind (wpAny_bind (wpAny_askSetting (wpAny_pure (wpAny_bind (wpAny_mkText (wpAny_bind (wpAny_loadPart D ?_)))))))
  dsimp only [dictOf]
  have c : (!es.any (·.key.isStr name) && es.any (·.refKey)) = false := by rw [hr, Bool.and_false]
  rw [aRefKeyMayBeTheName_at, List.any_toArray, List.any_toArray, c]
  refine wpAny_updatePart D ?_
  refine wpAny_bind (wpAny_lookBehind D' (pastItsLine_dict ?_) (wpAny_pure (hQ _ _ _ U1 U2)))
  rw [List.size_toArray, sizeLine_eq]
  have := putL_len name (PyData.keyHash w.params name) (.str name s.toks) v es
  omega

theorem exc_set2 {d : Addr} {es : List DictEntry} {n : Nat} {name : Str} {v : Value} {Q : Unit → Shared → Prop} (F : Fr h₀ L s.heap m) (X₀ : (hd.heap_1 w.params).In h₀) (N : News h₀ L s.heap ((x, excObjD t d) :: (d, dictOf es n) :: news)) (ht : findIn (hd.heap_1 w.params) (.ref 87) name = some none)
    (hxd : @Ne Nat x d) (hdn : ∀ p ∈ news, @Ne Nat p.1 d) (hr : es.any (·.refKey) = false) (hz : es.length ≤ 10)
    (hQ : ∀ h' tk od, Fr h₀ L h' m → News h₀ L h' ((x, excObjD t d) :: (d, od) :: news) → Q () { s with heap := h', toks := tk }) :
    wpAny (model prg w) A (setAttr (.ref x) name v) Q E s := by
  have X := X₀.keeps F.keep
  have I : InstAt s.heap x (excObjD t d) 87 (some (dictOf es n)) := ⟨(N _ (.head _)).1, rfl, rfl, (N _ (.tail _ (.head _))).1⟩
  obtain ⟨cd, hc, -, hdc⟩ := fault_cls w
  refine set_plain X I (fault_set w) (exc_open (s := { s with toks := s.toks + 1 }) X I ht ?_)
  refine wpAny_bind (wpAny_pure (wpAny_bind (wpAny_bind (wpAny_loadPart (N _ (.head _)).1 (wpAny_bind (Looks.here (s := { s with toks := s.toks + 1 }) (looks_clsIn X hc) ?_))))))
  rw [hdc]
  refine wpAny_pure (a := some d) ?_
  refine wpAny_bind (wpAny_pure ?_)
  exact exc_put (s := { s with toks := s.toks + 1 }) F N hxd hdn hr hz fun h' tk _ F' N' => hQ h' tk _ F' N'
theorem exc_set1 {name : Str} {v : Value} {Q : Unit → Shared → Prop} (F : Fr h₀ L s.heap m) (X₀ : (hd.heap_1 w.params).In h₀) (N : News h₀ L s.heap ((x, excObj t) :: news)) (ht : findIn (hd.heap_1 w.params) (.ref 87) name = some none)
    (hx : ∀ p ∈ news, @Ne Nat p.1 x)
    (hQ : ∀ h' tk d tk2, Fr h₀ L h' m → News h₀ L h' ((x, excObjD t d) :: (d, dictOf [⟨PyData.keyHash w.params name, .str name tk2, v⟩] 1) :: news) → (∀ p ∈ news, @LT.lt Nat _ p.1 d) → @LT.lt Nat _ x d → Q () { s with heap := h', toks := tk }) :
    wpAny (model prg w) A (setAttr (.ref x) name v) Q E s := by
  have X := X₀.keeps F.keep
  have I : InstAt s.heap x (excObj t) 87 none := ⟨(N _ (.head _)).1, rfl, rfl, trivial⟩
  obtain ⟨cd, hc, -, hdc⟩ := fault_cls w
  refine set_plain X I (fault_set w) (exc_open (s := { s with toks := s.toks + 1 }) X I ht ?_)
  refine wpAny_bind (wpAny_pure (wpAny_bind (wpAny_bind (wpAny_loadPart (N _ (.head _)).1 (wpAny_bind (Looks.here (s := { s with toks := s.toks + 1 }) (looks_clsIn X hc) ?_))))))
  rw [hdc]
  have hxs : @LT.lt Nat _ x s.heap.objs.size := Heap.lt_size (N _ (.head _)).1
  have N2 := N.push F (dictOf [] 0)
  obtain ⟨U1, U2⟩ := news_upd (f := fun o => { o with dict := some s.heap.objs.size }) (pre := [(s.heap.objs.size, dictOf [] 0)]) (post := news) (d := x) (o := excObj t) (o' := excObjD t s.heap.objs.size) (F.push _) N2
    (fun p hp => by rw [List.mem_singleton.mp hp]; exact Nat.ne_of_gt hxs) hx rfl rfl
  refine wpAny_bind (wpAny_alloc (wpAny_bind (wpAny_update (Heap.get?_push_of_some _ (N _ (.head _)).1) ?_)))
  refine wpAny_pure ?_
  refine wpAny_bind (wpAny_pure ?_)
  have N3 : News h₀ L ((s.heap.push (dictOf [] 0)).update x fun o => { o with dict := some s.heap.objs.size }) ((x, excObjD t s.heap.objs.size) :: (s.heap.objs.size, dictOf [] 0) :: news) := fun p hp => U2 p (by
    rcases List.mem_cons.mp hp with rfl | hp
    · exact .tail _ (.head _)
    · rcases List.mem_cons.mp hp with rfl | hp
      · exact .head _
      · exact .tail _ (.tail _ hp))
  have ln : ∀ p ∈ news, @LT.lt Nat _ p.1 s.heap.objs.size := fun p hp => Heap.lt_size (N p (.tail _ hp)).1
  exact exc_put (s := { s with heap := (s.heap.push (dictOf [] 0)).update x fun o => { o with dict := some s.heap.objs.size }, toks := s.toks + 1 }) U1 N3 (Nat.ne_of_lt hxs) (fun p hp => Nat.ne_of_lt (ln p hp)) rfl (by decide) fun h' tk tk2 F' N' => hQ h' tk _ tk2 F' N' ln hxs
end
end Mine
end
section
open Builtin Builtin.ObjectAttr
namespace Mine
noncomputable def Own (w : World) (E : Value → Shared → Prop) (v : Value) (s₁ : Shared) : Prop :=
  ∃ a ob vs, v = .ref a ∧ s₁.heap.get? a = some ob ∧ ob.cls = .ref 87 ∧ ob.data = .fields vs ∧ vs[1]? = some .none ∧ (hd.heap_1 w.params).In s₁.heap ∧ E (.ref a) s₁
section
variable {w : World} {A : Around} {E : Value → Shared → Prop} {s : Shared} {env : Env}
theorem raise_own {e : PySem.Expr} {pos : Pos} {Q : Flow → Shared → Prop} (hh : A.handled = none)
    (h : wpAny (model prg w) A (eval e env) (Own w E) E s) : wpAny (model prg w) A (exec (.Raise (some e) none pos) env) Q E s := by
  show wpAny (model prg w) A (do standAt pos; raiseStmt env (some (do let v ← eval e env; standAt pos; pure v)) none) Q E s
  refine wpAny_bind (wpAny_standAt ?_)
  unfold raiseStmt
  dsimp only
  refine wpAny_bind (wpAny_bind (wpAny_mono h (fun v s₁ h₁ => wpAny_bind (wpAny_standAt (wpAny_pure ?_))) fun _ _ x => x))
  obtain ⟨a, ob, vs, rfl, ha, hcls, hdt, h1, X, hE⟩ := h₁
  obtain ⟨nm, q, bs, sn, sub, ab, col, k0, k1, k2, k3, k5, ho⟩ := excIn87_obj (fault_in w)
  have hC := X _ _ ho
  have hcB : (Value.ref 87 :: tailE).contains (.type "BaseException") = true := by decide
  obtain ⟨oc, od, oda, osl⟩ := ob
  dsimp only at hcls hdt
  subst hcls hdt
  obtain ⟨hp, g, d, tk, os⟩ := s₁
  repeat (first | with_reducible refine wpAny_loadPart_at ha ?_ | with_reducible refine wpAny_loadPart_at hC ?_ | (with_reducible refine wpAny_isSubtype_exc hC ?_; rw [hcB]) | wp_step)
  rw [h1]
  refine wpAny_pure ?_
  rw [if_neg (by decide)]
  exact wpAny_pure (wpAny_raiseNew_none hh hE)
end
section
variable {M : Model} {A : Around} {E : Value → Shared → Prop} {s' : Shared} {base g : Heap} {outer : List Env} {L a x : Addr} {m : Str → Option Value} {name : Str} {scope : Scope} {cd : Value} {Q : Unit → Shared → Prop} {news : Led}
theorem leave_fault {oe : Obj} {vs : Array Value} {a0 : Value} (K : Below A base outer g) (F : Fr g L s'.heap m) (N : News g L s'.heap news) (hx : News g L s'.heap [(x, oe)]) (hoc : oe.cls = .ref 87) (hdt : oe.data = .fields vs) (h1 : vs[1]? = some .none) (h0 : vs[0]? = some a0)
    (hne : ∀ p ∈ news, @Ne Nat p.1 x)
    (hQ : ∀ h', RaisedN base outer x (.ref 87) news h' → g.UpToSlots h' → Q () { s' with heap := h' }) (hk : scope.kind = .function := by rfl) :
    wpAny M (A.deeper (envOf name scope L a cd)) (leaving (envOf name scope L a cd) (.ref x)) Q E s' := by
  have K' := K.push (name := name) (a := a) (cd := cd) F hk
  have X := hx _ (.head _)
  have fresh : ∀ b, g.get? b = none → base.get? b = none := fun b hb => fresh_of_stays K.stays hb
  have hin : ∀ env ∈ (envOf name scope L a cd :: outer), ∀ b, env.frame = some b → b ∈ x :: (envOf name scope L a cd :: outer).filterMap (·.frame) := fun env he b hb => .tail _ (List.mem_filterMap.mpr ⟨env, he, hb⟩)
  have st : base.StaysIn (hideAll s'.heap (x :: (envOf name scope L a cd :: outer).filterMap (·.frame))) := fun b o q => hideAll_get _ (K'.stays b o q) fun hm => by
    rcases List.mem_cons.mp hm with rfl | hm
    · rw [fresh _ X.2.2] at q; cases q
    · rw [(K'.frames.mem hm).1] at q; cases q
  have hl : ∀ q ∈ news, (hideAll s'.heap (x :: (envOf name scope L a cd :: outer).filterMap (·.frame))).get? q.1 = some q.2 ∧ base.get? q.1 = none := fun q hq => by
    refine ⟨hideAll_get _ (N q hq).1 fun hm => ?_, fresh _ (N q hq).2.2⟩
    rcases List.mem_cons.mp hm with e | hm
    · exact hne q hq e
    obtain ⟨env, he, hf⟩ := List.mem_filterMap.mp hm
    rcases List.mem_cons.mp he with rfl | he
    · exact (N q hq).2.1 (Option.some.inj hf).symm
    · obtain ⟨o, ho, _⟩ := (K.frames.mem (List.mem_filterMap.mpr ⟨env, he, hf⟩)).2
      rw [(N q hq).2.2] at ho; cases ho
  refine wpAny_leaving_firstW (a0 := a0) K'.stack (funFrames_hide K'.frames hin) rfl X.1 (fun b o hb => of_hideAll _ hb) (hideAll_none _ (.head _)) hdt h1 h0 fun h' hL => ?_
  obtain ⟨k1, ⟨_, _, k2⟩, k3, k4⟩ := hL
  exact hQ h' ⟨_, a0, st, hl, k1, hideAll_none _ (.head _), k2, by rw [← hoc]; exact k3⟩ ((Heap.UpToSlots.of_keeps F.keep).trans k4)
end
section
variable {w : World} {A₀ : Around} {E : Value → Shared → Prop} {s' : Shared} {h₀ h : Heap} {outer : List Env} {L a e : Addr} {m : Str → Option Value} {name : Str} {scope : Scope} {cd : Value}
  {b₀ : Stmt} {suite : List Stmt} {pos np : Pos} {rest : List ExceptHandler} {Q : Flow → Shared → Prop} {news : Led}
  {p : Program} {loose : List Str} {mean : ExcName → Option Value} {mg mb : Str → Option Value} {x : Str}
theorem caught_fault (K : A₀.frames = some outer) (F : Fr h₀ L h m) (hsm : h.UpToSlots s'.heap) (R : RaisedN h₀ (envOf name scope L a cd :: outer) e (.ref 87) news s'.heap)
    (X : (hd.heap_1 w.params).In h₀) (T : TopRead p loose mg mb h₀) (ex : nsIn (hd.heap_1 w.params) mainGlobals x = some (some (.ref 87)))
    (k : ∀ h', Fr h₀ L h' m → News h₀ L h' news → h.UpToSlots h' →
      wpAny (model prg w) ((A₀.deeper (envOf name scope L a cd)).mark (some (.ref e))) (execs (b₀ :: suite) (envOf name scope L a cd)) Q E { s' with heap := h' })
    (hk : scope.kind = .function := by rfl) (hx : (envOf name scope L a cd).kindOf x = some .globalImplicit := by rfl) (hdb : (x == ("__debug__" : Str)) = false := by decide)
    (hE : PassesOwnAt (model prg w) ((A₀.deeper (envOf name scope L a cd)).mark (some (.ref e))) (A₀.deeper (envOf name scope L a cd)) (envOf name scope L a cd) E := by passes_own) :
    wpAny (model prg w) (A₀.deeper (envOf name scope L a cd)) (noteFrame (.ref e) (envOf name scope L a cd))
      (fun _ s₂ => wpAny (model prg w) (A₀.deeper (envOf name scope L a cd)) (setFlight (.ref e) none) (fun _ s₃ =>
        wpAny (model prg w) (A₀.deeper (envOf name scope L a cd)) (handleBy (.ref e) (envOf name scope L a cd) (.ExceptHandler (some (.Name x np)) none (b₀ :: suite) pos :: rest)) Q E s₃) E s₂) E s' := by
  obtain ⟨B, a0, hB, hl, hfl⟩ := R
  have hL : B.get? L = none := by
    obtain ⟨_, ⟨L', _, hf, hn', _⟩, _⟩ := hfl.2.2.1
    obtain rfl : L = L' := Option.some.inj hf
    exact hn'
  refine wpAny_looks_onW (Around.frames_deeper K) rfl hfl fun h₄ hheld₄ hsm₄ => ?_
  refine wpAny_landsW hheld₄ fun h₅ hheld hsm₅' => ?_
  have hsm₅ := hsm₄.trans hsm₅'
  have hheld' := flyingW_base hB hheld
  have F₅ := F.of_stays hheld'.1 (hsm.trans hsm₅)
  obtain ⟨ob, hob, hobc⟩ := hheld'.there
  obtain ⟨nm, q, bs, sn, sub, ab, col, k0, k1, k2, k3, k5, ho⟩ := excIn87_obj (fault_in w)
  have hC := (X.keeps F₅.keep) _ _ ho
  refine wpAny_handleBy_cons (codeAny_handlers_test (name_K F₅ X T ex ?_ hk hx hdb)) (by intro q; cases q)
  refine wpAny_excMatches_sub_self hC hob hobc tail_base (codeAny_handlers_suite ?_)
  refine lands_againW hheld fun h₆ hfl₆ hsm₆ => ?_
  have F₆ := F.of_stays (flyingW_base hB hfl₆).1 ((hsm.trans hsm₅).trans hsm₆)
  exact wpAny_passesOwnAt hE (k h₆ F₆ (fun q hq => ⟨hfl₆.1 _ _ (hl q hq).1, (fun z => by have := (hl q hq).1; rw [z, hL] at this; cases this), (hl q hq).2⟩) ((hsm.trans hsm₅).trans hsm₆))
end
theorem meta_exc : typeOf (.type "Exception") = pure (.type "type") := by kernel_rfl
theorem find_exc (w : World) : findCls (hd.heap_1 w.params) (.type "Exception") (.type "type") "__init__" = some (.val (.builtin "Exception.__init__")) := by kernel_rfl
end Mine
end
section
open PyProof.V PySem.SeqAt
namespace Mine
theorem ints_of {vs : List Value} : ∀ {ks : List Int}, vs.length = ks.length → (∀ (j : Nat) (v : Value) (k : Int), vs[j]? = some v → ks[j]? = some k → ∃ t, v = .int k t) → IntsAre vs ks := by
  induction vs with
  | nil => intro ks hl _; cases ks with
    | nil => exact .nil
    | cons k r => simp at hl
  | cons v vs ih =>
    intro ks hl h
    cases ks with
    | nil => simp at hl
    | cons k r =>
      obtain ⟨t, rfl⟩ := h 0 v k (by simp) (by simp)
      exact .cons k t (ih (by simpa using hl) fun j v' k' h1 h2 => h (j + 1) v' k' (by simpa using h1) (by simpa using h2))
section
variable {w : World} {A : Around} {E : Value → Shared → Prop} {s : Shared} {h₀ : Heap} {L d : Addr} {m : Str → Option Value} {news : Led} {o : Obj} {kvs : List (Int × Value)}
theorem sorted_dict {Q : Value → Shared → Prop} (hh : A.handled = none) (F : Fr h₀ L s.heap m) (N : News h₀ L s.heap news) (hm : (d, o) ∈ news) (hd : o.IsDictOf (PySem.intKind prg w) kvs) (lo : (d == sysModules) = false) (hn : kvs.length < 64) (hs : (kvs.map (·.1)).Pairwise (· < ·))
    (h : ∀ D vs c h' tk, Fr h₀ L h' m → News h₀ L h' ((D, W.listOf (List.toArray vs) c) :: news) → (∀ q ∈ news, @LT.lt Nat _ q.1 D) → IntsAre vs (kvs.map (·.1)) → Q (.ref D) { s with heap := h', toks := tk }) :
    wpAny (model prg w) A (call (.builtin "sorted") [.ref d]) Q E s := by
  obtain ⟨ep, ha⟩ := KdkAt.of hd
  have hda := ha.dictAt (N _ hm).1
  refine kdu_sorted (kdl_dict (knd := PySem.intKind prg w) (kvs := kvs) (ep := ep) lo) hh F N hda (kdl_size (by omega)) fun B h' tk vs F' N' l1 hl hv => ?_
  have hi : IntsAre vs (kvs.map (·.1)) := by
    refine ints_of (by rw [hl, List.length_map]) fun j v k h1 h2 => ?_
    obtain ⟨k', x, hx, hk⟩ := hv j v h1
    obtain ⟨t, rfl⟩ := Value.isInt_shape hk
    rw [List.getElem?_map, hx] at h2
    simp at h2
    exact ⟨t, by rw [h2]⟩
  refine ksk_lsort (vs := vs) (ns := kvs.map (·.1)) (news' := fun o => (B, o) :: news) F' N' (fun o => Upd.head fun p hp => Nat.ne_of_lt (l1 p hp)) (by simp) hi (by rw [List.length_map]; exact hn) ?_
  intro vs' ns' c h'' F'' N'' hi' _ hp ho _
  have e : ns' = kvs.map (·.1) := ksm_same hp ho (hs.imp fun h => Int.le_of_lt h)
  subst e
  exact h B vs' c h'' tk F'' N'' l1 hi'
end
/-- the runs: each a tuple of the ledger -/
noncomputable def RunAt (news : Led) (v : Value) (r : Int × Int) : Prop := ∃ (t : Addr) (a b : Tok), v = .ref t ∧ (t, ({ cls := .type "tuple", data := .seq #[.int r.1 a, .int r.2 b] } : Obj)) ∈ news
inductive RunsAt (news : Led) : List Value → List (Int × Int) → Prop
  | nil : RunsAt news [] []
  | cons {v : Value} {r : Int × Int} {vs : List Value} {rs : List (Int × Int)} : RunAt news v r → RunsAt news vs rs → RunsAt news (v :: vs) (r :: rs)
theorem RunAt.mono {news news' : Led} {v : Value} {r : Int × Int} (h : RunAt news v r) (hs : ∀ p ∈ news, p ∈ news') : RunAt news' v r := by
  obtain ⟨t, a, b, e, hm⟩ := h; exact ⟨t, a, b, e, hs _ hm⟩
theorem RunsAt.mono {news news' : Led} {vs : List Value} {rs : List (Int × Int)} (h : RunsAt news vs rs) (hs : ∀ p ∈ news, p ∈ news') : RunsAt news' vs rs := by
  induction h with
  | nil => exact .nil
  | cons a _ ih => exact .cons (a.mono hs) ih
theorem RunsAt.length {news : Led} {vs : List Value} {rs : List (Int × Int)} (h : RunsAt news vs rs) : vs.length = rs.length := by
  induction h with
  | nil => rfl
  | cons _ _ ih => simp [ih]
theorem RunsAt.snoc {news : Led} {vs : List Value} {rs : List (Int × Int)} (h : RunsAt news vs rs) {v : Value} {r : Int × Int} (a : RunAt news v r) : RunsAt news (vs ++ [v]) (rs ++ [r]) := by
  induction h with
  | nil => exact .cons a .nil
  | cons b _ ih => exact .cons b ih
theorem RunsAt.unsnoc {news : Led} {vs : List Value} {rs : List (Int × Int)} (h : RunsAt news vs rs) : ∀ {rs' : List (Int × Int)} {r : Int × Int}, rs = rs' ++ [r] → ∃ vs' v, vs = vs' ++ [v] ∧ RunsAt news vs' rs' ∧ RunAt news v r := by
  induction h with
  | nil => intro rs' r e; simp at e
  | @cons v r vs rs a h ih =>
    intro rs' r' e
    cases rs' with
    | nil =>
      simp at e
      obtain ⟨rfl, rfl⟩ := e
      cases h
      exact ⟨[], v, rfl, .nil, a⟩
    | cons q rs' =>
      simp at e
      obtain ⟨rfl, e⟩ := e
      obtain ⟨vs', v', rfl, h1, h2⟩ := ih e
      exact ⟨v :: vs', v', rfl, .cons a h1, h2⟩
theorem RunsAt.get {news : Led} {vs : List Value} {rs : List (Int × Int)} (h : RunsAt news vs rs) : ∀ {i : Nat} {v : Value}, vs[i]? = some v → ∃ r, rs[i]? = some r ∧ RunAt news v r := by
  induction h with
  | nil => intro i v e; simp at e
  | @cons v r vs rs a _ ih =>
    intro i v' e
    cases i with
    | zero => simp at e; subst e; exact ⟨r, by simp, a⟩
    | succ i => simp at e; obtain ⟨r', h1, h2⟩ := ih e; exact ⟨r', by simpa using h1, h2⟩
noncomputable def runDat (r : Int × Int) : PyData := .tuple [.int r.1, .int r.2]
theorem RunsAt.reads {h₀ h : Heap} {L : Addr} {news : Led} {vs : List Value} {rs : List (Int × Int)} (k : RunsAt news vs rs) (N : News h₀ L h news) : ReadsAll h vs (rs.map runDat) [] := by
  induction k with
  | nil => exact .nil
  | cons a _ ih =>
    obtain ⟨t, x, y, rfl, hm⟩ := a
    have h1 := reads_tuple_at (xs := [.int _, .int _]) (as := []) (N _ hm).1 rfl rfl (readsAll_cons_val (.int _ x) (readsAll_cons_val (.int _ y) .nil))
    exact readsAll_cons_val h1 ih
theorem run_canLay : ∀ rs : List (Int × Int), PyData.canLayAll0 (rs.map runDat) = true
  | [] => rfl
  | r :: rs => by simp [PyData.canLayAll0, PyData.canLay0, runDat, run_canLay rs]
theorem run_depth : ∀ rs : List (Int × Int), PyData.depthAll (rs.map runDat) ≤ 2
  | [] => by simp [PyData.depthAll]
  | r :: rs => by
    have := run_depth rs
    simp only [List.map_cons, PyData.depthAll, runDat, PyData.depth]
    omega
theorem run_shaped (rs : List (Int × Int)) : shaped (.list (rs.map runDat)) = true := by
  have h1 := run_depth rs
  have h2 : PyData.depth (.list (rs.map runDat)) ≤ 64 := by simp only [PyData.depth]; omega
  show (PyData.canLay0 (.list (rs.map runDat)) && decide (PyData.depth (.list (rs.map runDat)) ≤ 64)) = true
  rw [Bool.and_eq_true]
  exact ⟨by simp only [PyData.canLay0]; exact run_canLay rs, decide_eq_true h2⟩
theorem run_eqv (rs : List (Int × Int)) : PyData.eqv (.list (rs.map runDat)) (.list []) = rs.isEmpty := by
  cases rs with
  | nil => rfl
  | cons r rs => rfl
section
variable {w : World} {A : Around} {E : Value → Shared → Prop} {s : Shared} {h₀ : Heap} {L a b : Addr} {news : Led} {vs : List Value} {rs : List (Int × Int)} {c n : Nat}
theorem ne_nil {Q : Value → Shared → Prop} (N : News h₀ L s.heap news) (ha : (a, W.listOf vs.toArray c) ∈ news) (hb : (b, W.listOf #[] n) ∈ news) (k : RunsAt news vs rs) (hu : A.units + 64 < cLine) (h : Q (.bool (!rs.isEmpty)) s) :
    wpAny (model prg w) A (compareOp .NotEq (.ref a) (.ref b)) Q E s :=
  ne_dataH (reads_list_at (xs := rs.map runDat) (N _ ha).1 rfl rfl (by simpa using k.reads N)) (reads_list_at (xs := []) (N _ hb).1 rfl rfl .nil) (run_shaped rs) rfl hu (by rw [run_eqv]; exact h)
theorem eq_nil {Q : Value → Shared → Prop} (N : News h₀ L s.heap news) (ha : (a, W.listOf vs.toArray c) ∈ news) (hb : (b, W.listOf #[] n) ∈ news) (k : RunsAt news vs rs) (hu : A.units + 64 < cLine) (h : Q (.bool rs.isEmpty) s) :
    wpAny (model prg w) A (compareOp .Eq (.ref a) (.ref b)) Q E s :=
  eq_dataH (reads_list_at (xs := rs.map runDat) (N _ ha).1 rfl rfl (by simpa using k.reads N)) (reads_list_at (xs := []) (N _ hb).1 rfl rfl .nil) (run_shaped rs) rfl hu (by rw [run_eqv]; exact h)
theorem idx_last (xs : List Value) (v : Value) : seqIndex? (-1) (xs ++ [v]).toArray.size = some xs.length := by
  unfold seqIndex?
  have h : ((xs ++ [v]).toArray.size : Int) = (xs.length : Int) + 1 := by simp
  simp only [h]
  have h2 : (-1 : Int) + ((xs.length : Int) + 1) = xs.length := by omega
  simp [h2]
  omega
theorem item_last {value slice : PySem.Expr} {u : Tok} {xs : List Value} {v : Value} {Q : Value → Shared → Prop} (N : News h₀ L s.heap news) (hm : (a, W.listOf (xs ++ [v]).toArray c) ∈ news)
    (h : Q v s) (hs : subscripted slice false (.ref a) (.int (-1) u) = operate [.ref a, .int (-1) u] (getItem (.ref a) (.int (-1) u)) := by with_unfolding_all rfl) :
    wpAny (model prg w) A (subscriptTail value slice (.ref a) (.int (-1) u)) Q E s := by
  have hl : s.heap.IsList a (xs ++ [v]).toArray := ⟨_, (N _ hm).1, rfl, c, rfl⟩
  refine tail_any hl.typeIs slot_list_getitem.lookup (wpAny_getItem_list_neg hl (by decide) (by simp; omega) (by decide) (x := v) ?_ h) hs
  have e : ((-1 : Int) + ((xs ++ [v]).toArray.size : Int)).toNat = xs.length := by simp; omega
  rw [e]
  simp
theorem setL_last (v y : Value) : ∀ xs : List Value, ki_setL (xs ++ [y]) xs.length v = some (xs ++ [v])
  | [] => rfl
  | x :: xs => by
    show (match ki_setL (xs ++ [y]) xs.length v with | some q => some (x :: q) | none => none) = some (x :: (xs ++ [v]))
    rw [setL_last v y xs]
theorem set_last {m : Str → Option Value} {u : Tok} {xs : List Value} {v y : Value} {news' : Led} {Q : Unit → Shared → Prop} (F : Fr h₀ L s.heap m) (N : News h₀ L s.heap news) (U : Upd a (W.listOf (xs ++ [y]).toArray c) (W.listOf (xs ++ [v]).toArray c) news news')
    (h : ∀ h', Fr h₀ L h' m → News h₀ L h' news' → Q () { s with heap := h' }) : wpAny (model prg w) A (setItem (.ref a) (.int (-1) u) v) Q E s :=
  ki_setNeg F N (by decide) (by decide) (idx_last xs y) (q := xs ++ [v]) (by simpa using setL_last v y xs) U h
end
end Mine
namespace Mine
section
variable {w : World} {A : Around} {E : Value → Shared → Prop} {s : Shared} {h₀ : Heap} {L a b : Addr} {news news1 : Led} {vs : List Value} {rs : List (Int × Int)} {r : Int × Int} {c n : Nat}
theorem ne_nil0 {Q : Value → Shared → Prop} (N : News h₀ L s.heap news) (ha : (a, W.listOf vs.toArray c) ∈ news) (hb : (b, W.listOf #[] n) ∈ news) (k : RunsAt news1 vs []) (hs : ∀ p ∈ news1, p ∈ news) (hu : A.units + 64 < cLine) (h : Q (.bool false) s) :
    wpAny (model prg w) A (compareOp .NotEq (.ref a) (.ref b)) Q E s := ne_nil N ha hb (k.mono hs) hu h
theorem ne_nil1 {Q : Value → Shared → Prop} (N : News h₀ L s.heap news) (ha : (a, W.listOf vs.toArray c) ∈ news) (hb : (b, W.listOf #[] n) ∈ news) (k : RunsAt news1 vs (rs ++ [r])) (hs : ∀ p ∈ news1, p ∈ news) (hu : A.units + 64 < cLine) (h : Q (.bool true) s) :
    wpAny (model prg w) A (compareOp .NotEq (.ref a) (.ref b)) Q E s := ne_nil N ha hb (k.mono hs) hu (by
      have e : (rs ++ [r]).isEmpty = false := by cases rs <;> rfl
      rw [e]; exact h)
theorem eq_nil0 {Q : Value → Shared → Prop} (N : News h₀ L s.heap news) (ha : (a, W.listOf vs.toArray c) ∈ news) (hb : (b, W.listOf #[] n) ∈ news) (k : RunsAt news1 vs []) (hs : ∀ p ∈ news1, p ∈ news) (hu : A.units + 64 < cLine) (h : Q (.bool true) s) :
    wpAny (model prg w) A (compareOp .Eq (.ref a) (.ref b)) Q E s := eq_nil N ha hb (k.mono hs) hu h
theorem eq_nil1 {Q : Value → Shared → Prop} (N : News h₀ L s.heap news) (ha : (a, W.listOf vs.toArray c) ∈ news) (hb : (b, W.listOf #[] n) ∈ news) (k : RunsAt news1 vs (rs ++ [r])) (hs : ∀ p ∈ news1, p ∈ news) (hu : A.units + 64 < cLine) (h : Q (.bool false) s) :
    wpAny (model prg w) A (compareOp .Eq (.ref a) (.ref b)) Q E s := eq_nil N ha hb (k.mono hs) hu (by
      have e : (rs ++ [r]).isEmpty = false := by cases rs <;> rfl
      rw [e]; exact h)
end
end Mine
namespace Mine
theorem led_lst {h₀ h : Heap} {L S : Addr} {its : List Value} {c : Nat} {news : Led} (N : News h₀ L h ((S, W.listOf its.toArray c) :: news)) : ∃ S' its' c', S' = S ∧ its' = its ∧ c' = c ∧ News h₀ L h ((S', W.listOf (List.toArray its') c') :: news) := ⟨S, its, c, rfl, rfl, rfl, N⟩
end Mine
namespace Mine
section
variable {prog : Program} {w : World} {A : Around} {E : Value → Shared → Prop} {s : Shared} {h₀ : Heap} {L t : Addr} {news : Led} {its : List Value} {n : Nat}
theorem idx_nat {k : Nat} {len : Nat} (h : k < len) : seqIndex? (k : Int) len = some k := by
  unfold seqIndex?
  have h1 : ¬ ((k : Int) < 0) := by omega
  simp only [h1, if_false]
  rw [if_pos (by simp only [Bool.and_eq_true, decide_eq_true_eq]; omega)]
  simp
theorem item_tup {value slice : PySem.Expr} {k : Int} {u : Tok} {v : Value} {Q : Value → Shared → Prop} (N : News h₀ L s.heap news) (hm : (t, ({ cls := .type "tuple", data := .seq its.toArray n } : Obj)) ∈ news) (h0 : 0 ≤ k) (hfit : k < 2 ^ 63) (hx : its[k.toNat]? = some v)
    (h : Q v s) (hs : subscripted slice false (.ref t) (.int k u) = operate [.ref t, .int k u] (getItem (.ref t) (.int k u)) := by with_unfolding_all rfl) :
    wpAny (model prog w) A (subscriptTail value slice (.ref t) (.int k u)) Q E s := by
  have hl : IsTup s.heap t its.toArray := ⟨_, (N _ hm).1, rfl, n, rfl⟩
  have hk : k.toNat < its.length := by
    rcases Nat.lt_or_ge k.toNat its.length with h | h
    · exact h
    · rw [List.getElem?_eq_none h] at hx; cases hx
  have e : seqIndex? k its.length = some k.toNat := by
    have := idx_nat hk
    rwa [Int.toNat_of_nonneg h0] at this
  exact item_tupleT hl (by omega) hfit e hx h hs
end
end Mine
namespace Mine
theorem led_o1 {h₀ h : Heap} {L D : Addr} {o : Obj} {news : Led} (N : News h₀ L h ((D, o) :: news)) : ∃ D' o', D' = D ∧ o' = o ∧ News h₀ L h ((D', o') :: news) := ⟨D, o, rfl, rfl, N⟩
theorem led_o2 {h₀ h : Heap} {L D : Addr} {o : Obj} {p : Addr × Obj} {news : Led} (N : News h₀ L h (p :: (D, o) :: news)) : ∃ D' o', D' = D ∧ o' = o ∧ News h₀ L h (p :: (D', o') :: news) := ⟨D, o, rfl, rfl, N⟩
end Mine
end
section
namespace Mine
section
open Builtin
theorem slot_bytes_join : Slot "bytes" "join" "bytes.join" :=
  .of (owner := "bytes") (n := "join") (by rw [typeLookup_type, builtinLookup_eq_fast]; kernel_rfl) (by decide +kernel) (by decide +kernel) (by decide +kernel)
    (by first | exact .inl (by decide +kernel) | exact .inr (by decide +kernel)) (by rw [isSubtype_type]; kernel_rfl)
theorem type_bytes_join : typeOf (.builtin "bytes.join") = pure (.type "method_descriptor") := by show builtinType _ = _; rw [builtinType_eq_fast]; kernel_rfl
theorem entry_bytes_join : entryFor table "bytes.join" = some Builtin.«bytes.join» := entryFor_of_tree (by kernel_rfl)
theorem args_bytes_join_2 (a b : Value) : argsOk "bytes.join" ⟨[a, b], []⟩ := by unfold argsOk; kernel_rfl
theorem tb_eq (b : Array UInt8) (t : Tok) : Bytes.takeBufferQuiet? "bytes.join" (.bytes b t) 0 = pure (some (b, none)) := by kernel_rfl
theorem so_eq (b : Array UInt8) (t : Tok) (l : Addr) : selfAndOne "bytes.join" ⟨[.bytes b t, .ref l], []⟩ = pure (.bytes b t, .ref l) := by kernel_rfl
theorem pl_eq (b : Array UInt8) (t : Tok) : Bytes.payload (.bytes b t) = pure b := by kernel_rfl
inductive BytesAre : List Value → List (Array UInt8) → Prop
  | nil : BytesAre [] []
  | cons (b : Array UInt8) (t : Tok) {vs : List Value} {bs : List (Array UInt8)} : BytesAre vs bs → BytesAre (.bytes b t :: vs) (b :: bs)
theorem BytesAre.length {vs : List Value} {bs : List (Array UInt8)} (h : BytesAre vs bs) : vs.length = bs.length := by
  induction h with
  | nil => rfl
  | cons _ _ _ ih => simp [ih]
theorem BytesAre.snoc {vs : List Value} {bs : List (Array UInt8)} (h : BytesAre vs bs) (b : Array UInt8) (t : Tok) : BytesAre (vs ++ [.bytes b t]) (bs ++ [b]) := by
  induction h with
  | nil => exact .cons b t .nil
  | cons c u _ ih => exact .cons c u ih
theorem BytesAre.get {vs : List Value} {bs : List (Array UInt8)} (h : BytesAre vs bs) : ∀ {i : Nat} {b : Array UInt8}, bs[i]? = some b → ∃ t, vs[i]? = some (.bytes b t) := by
  induction h with
  | nil => intro i b h; simp at h
  | cons c u _ ih =>
    intro i b h
    cases i with
    | zero => simp at h; subst h; exact ⟨u, by simp⟩
    | succ i => simp at h; obtain ⟨t, ht⟩ := ih h; exact ⟨t, by simpa using ht⟩
theorem name_eq : s!"{Bytes.Kind.bytes.name}.join" = "bytes.join" := by decide +kernel
theorem jm1 {α : Type} (X : Array Value) (f : Value → α) (g : Array Value → α) (h : X.size ≠ 1) : Bytes.joinM.match_1 (fun _ => α) X f g = g X := by
  unfold Bytes.joinM.match_1
  obtain ⟨l⟩ := X
  rcases l with _ | ⟨a, _ | ⟨b, r⟩⟩
  · rfl
  · exact absurd rfl h
  · simp
theorem letGo_ok {M : Model} {A : Around} {E : Value → Shared → Prop} {s : Shared} {Q : Unit → Shared → Prop} (h : Q () s) : ∀ vs keep : List Value, wpAny M A (letGo vs keep) Q E s
  | [], _ => wpAny_pure h
  | _ :: rest, keep => wpAny_bind (wpAny_holding (wpAny_point (letGo_ok h rest keep)))
theorem joinLetGo_ok {M : Model} {A : Around} {E : Value → Shared → Prop} {s : Shared} {Q : Unit → Shared → Prop} (h : Q () s) : ∀ (taken : List (Value × Option Value)) (keep : List Value), (∀ p ∈ taken, p.2 = none) → wpAny M A (Bytes.joinLetGo taken keep) Q E s
  | [], _, _ => wpAny_pure h
  | (x, w) :: rest, keep, hn => by
    have e : w = none := hn _ (.head _)
    subst e
    unfold Bytes.joinLetGo
    dsimp only
    exact wpAny_bind (letGo_ok (joinLetGo_ok h rest keep fun p hp => hn p (.tail _ hp)) _ _)
theorem meets_join (l : Addr) (t : Tok) {vs : List Value} {bs : List (Array UInt8)} (n : Nat) (hb : BytesAre vs bs) (h1 : vs.length ≠ 1) (hz : (Bytes.joined #[] bs).size ≤ sizeLine) (hz2 : bs.toArray.foldl (fun x1 x2 => x1 + x2.size) 0 ≤ sizeLine) :
    Meets («bytes.join» ⟨[.bytes #[] t, .ref l], []⟩) (fun _ R s => s.heap.get? l = some (PySem.W.listOf vs.toArray n) ∧ ∀ t' k, R (.ok (.ret (.bytes (Bytes.joined #[] bs) t'))) { s with toks := k }) := by
  refine .of_wp fun prog w A R s hS => ?_
  obtain ⟨ho, h⟩ := hS
  have hT : s.TypeIs (.ref l) "list" := ⟨_, ho, rfl⟩
  unfold Builtin.«bytes.join» Bytes.joinM
  dsimp only
  rw [name_eq, so_eq]
  refine wpAny_bind (wpAny_pure ?_)
  dsimp only
  refine wpAny_ite (KBc.ite_yes rfl ?_)
  refine wpAny_bind ?_
  unfold Bytes.joinItems
  refine wpAny_bind (wpAny_typeOf hT ?_)
  refine wpAny_ite (KBc.ite_yes rfl ?_)
  refine wpAny_pure ?_
  refine wpAny_bind (wpAny_seqItems ho rfl ?_)
  dsimp only
  refine wpAny_ite (KBc.ite_yes rfl ?_)
  rw [jm1 _ _ _ (by rw [List.size_toArray]; exact h1)]
  refine wpAny_bind ?_
  rw [KPc.range_list]
  refine wpAny_forIn_list _ (fun rest st s' => ∃ (i : Nat) (taken : List (Value × Option Value)), rest = List.range' i (bs.length - i) 1 ∧ i ≤ bs.length ∧ st = ((bs.take i).toArray, taken) ∧ (∀ p ∈ taken, p.2 = none ∧ p.1.onHeap = false) ∧ s' = s) _ ?_ ?_ _ _ ?_
  · rintro x rest st s' ⟨i, taken, hr, hi, rfl, ht, rfl⟩
    have hlt : i < bs.length := by
      rcases Nat.lt_or_ge i bs.length with h | h
      · exact h
      · rw [show bs.length - i = 0 by omega] at hr; cases hr
    obtain ⟨k, hk⟩ : ∃ k, bs.length - i = k + 1 := ⟨bs.length - i - 1, by omega⟩
    rw [hk, List.range'_succ] at hr
    obtain ⟨rfl, rfl⟩ := List.cons.inj hr
    obtain ⟨u, hu⟩ := hb.get (List.getElem?_eq_getElem hlt)
    refine wpAny_bind (wpAny_seqItems ho rfl ?_)
    dsimp only
    have hany : (taken.any fun x => x.1.onHeap) = false := by
      rw [List.any_eq_false]
      intro p hp
      rw [(ht p hp).2]; exact Bool.false_ne_true
    have hx : vs.toArray.getD x .none = .bytes bs[x] u := by
      rw [Array.getD_eq_getD_getElem?, List.getElem?_toArray, hu]; rfl
    rw [hx]
    refine wpAny_ite (KBy.ite_no (by rw [hany]; exact Bool.false_ne_true) ?_)
    rw [tb_eq]
    refine wpAny_bind (wpAny_holding (wpAny_pure ?_))
    dsimp only
    refine wpAny_bind (wpAny_seqItems ho rfl ?_)
    dsimp only
    refine wpAny_ite (KBy.ite_no (by simp) ?_)
    refine wpAny_pure ?_
    refine ⟨x + 1, taken ++ [(.bytes bs[x] u, none)], ?_, hlt, ?_, ?_, rfl⟩
    · rw [show bs.length - (x + 1) = k by omega]
    · rw [List.take_add_one, List.getElem?_eq_getElem hlt]; simp
    · intro p hp
      rcases List.mem_append.mp hp with h | h
      · exact ht p h
      · rw [List.mem_singleton.mp h]; exact ⟨rfl, rfl⟩
  · rintro st s' ⟨i, taken, hr, hi, rfl, ht, rfl⟩
    have hin : i = bs.length := by
      have := congrArg List.length hr
      rw [List.length_range'] at this
      simp at this
      omega
    subst hin
    rw [List.take_length, pl_eq]
    refine wpAny_bind (wpAny_pure ?_)
    dsimp only
    refine wpAny_ite (KBy.ite_no ?_ ?_)
    · have e : (#[] : Array UInt8).size * (bs.toArray.size - 1) = 0 := by simp
      rw [e]
      unfold Bytes.tooLong
      simp only [decide_eq_true_eq]
      omega
    · refine wpAny_bind (wpAny_mkBytes ?_ (by simpa using hz))
      refine wpAny_bind (wpAny_holding (wpAny_point ?_))
      refine wpAny_bind (joinLetGo_ok ?_ _ _ fun p hp => (ht p hp).1)
      refine wpAny_pure ⟨_, rfl, ?_⟩
      have := h s'.toks (s'.toks + 1)
      simpa using this
  · exact ⟨0, [], by rw [List.size_toArray, hb.length]; rfl, Nat.zero_le _, rfl, (fun p hp => nomatch hp), rfl⟩
theorem joined_aux (bs : List (Array UInt8)) : ∀ (k : Nat) (acc : Array UInt8), ((bs.zipIdx k).foldl (fun out (p : Array UInt8 × Nat) => (if p.2 > 0 then out ++ (#[] : Array UInt8) else out) ++ p.1) acc).toList = acc.toList ++ (bs.map Array.toList).flatten := by
  induction bs with
  | nil => intro k acc; simp
  | cons b bs ih =>
    intro k acc
    rw [List.zipIdx_cons, List.foldl_cons, ih]
    split <;> simp
theorem joined_nil (bs : List (Array UInt8)) : Bytes.joined #[] bs = ((bs.map Array.toList).flatten).toArray := by
  have h := joined_aux bs 0 #[]
  apply Array.toList_inj.mp
  unfold Bytes.joined
  rw [h]
  simp
theorem size_aux (bs : List (Array UInt8)) : ∀ k : Nat, bs.foldl (fun x1 x2 => x1 + x2.size) k = k + ((bs.map Array.toList).flatten).length := by
  induction bs with
  | nil => intro k; simp
  | cons b bs ih => intro k; rw [List.foldl_cons, ih]; simp [Nat.add_assoc]
section
variable {prog : Program} {w : World} {A : Around} {E : Value → Shared → Prop} {s : Shared} {h₀ : Heap} {L l : Addr} {news : List (Addr × Obj)} {m : Str → Option Value}
theorem join_K {vs : List Value} {bs : List (Array UInt8)} {n : Nat} {t : Tok} {Q : Value → Shared → Prop} (F : Fr h₀ L s.heap m) (N : News h₀ L s.heap news) (hm : (l, PySem.W.listOf vs.toArray n) ∈ news) (hb : BytesAre vs bs) (h1 : vs.length ≠ 1) (hz : ((bs.map Array.toList).flatten).length ≤ 10000)
    (h : ∀ t' k, Q (.bytes ((bs.map Array.toList).flatten).toArray t') { s with toks := k }) : wpAny (model prog w) A (call (.builtin "bytes.join") [.bytes #[] t, .ref l]) Q E s := by
  have hs : 10000 ≤ sizeLine := by decide +kernel
  refine call_meets slot_bytes_join (typeIs_bytes _ _ _) entry_bytes_join (args_bytes_join_2 _ _) (meets_join l t n hb h1 ?_ ?_) ⟨(N _ hm).1, ?_⟩
  · rw [joined_nil, List.size_toArray]; omega
  · rw [List.foldl_toArray, size_aux]; omega
  · rw [joined_nil]; exact h
theorem join_method {M : Model} {b : Array UInt8} {t : Tok} {pl : Sem Bool} {Q : Value × List Value → Shared → Prop} (h : Q (.builtin "bytes.join", [.bytes b t]) s) : wpAny M A (getMethod (.bytes b t) "join" pl) Q E s := by
  exact KBd.method_of (.bytes b t) (typeIs_bytes _ _ _) slot_bytes_join type_bytes_join KBd.noRef h
end
end
end Mine
end
section
namespace Mine
section
open Builtin
noncomputable def waysA (t0 t1 t2 : Tok) : Array Value := #[.str (Str.ofString "free") t0, .str (Str.ofString "used") t1, .str (Str.ofString "packed") t2]
theorem ss_eq (a : Addr) (x : Str) (t : Tok) : selfAndSome "tuple.index" "index" 1 3 ⟨[.ref a, .str x t], []⟩ = pure (.ref a, [.str x t]) := by kernel_rfl
theorem meets_tidx (a : Addr) (n : Nat) (t0 t1 t2 t : Tok) (x : Str) (k : Int) (hx : x = Str.ofString "free" ∧ k = 0 ∨ x = Str.ofString "used" ∧ k = 1 ∨ x = Str.ofString "packed" ∧ k = 2) :
    Meets («tuple.index» ⟨[.ref a, .str x t], []⟩) (fun _ R s => (∃ o, s.heap.get? a = some o ∧ o.cls = .type "tuple" ∧ o.data = .seq (waysA t0 t1 t2) n) ∧ ∀ t' tk, R (.ok (.ret (.int k t'))) { s with toks := tk }) := by
  refine .of_wp fun prog w A R s hS => ?_
  obtain ⟨⟨o, ho, hc, hd⟩, h⟩ := hS
  have hT : s.TypeIs (.ref a) "tuple" := ⟨o, ho, hc⟩
  unfold Builtin.«tuple.index»
  rw [ss_eq]
  refine wpAny_bind (wpAny_pure ?_)
  dsimp only
  refine wpAny_bind (wpAny_tupleItemsOf ho hd ?_)
  refine wpAny_bind (wpAny_pure ?_)
  refine wpAny_bind (wpAny_pure ?_)
  refine wpAny_bind ?_
  have e : ∀ {β : Type} (b : β) (f : Nat → β → Sem (ForInStep β)), forIn [0:Min.min (waysA t0 t1 t2).size (waysA t0 t1 t2).size] b f = forIn [0, 1, 2] b f := by
    intro β b f; rw [show Min.min (waysA t0 t1 t2).size (waysA t0 t1 t2).size = 3 from rfl, KPc.range_list]; rfl
  rw [e, List.forIn_cons]
  refine wpAny_bind ?_
  show wpAny _ _ (eqBool (.str (Str.ofString "free") t0) (.str x t) >>= _) _ _ s
  refine wpAny_bind (wpAny_eqBool_str ?_)
  rcases hx with ⟨rfl, rfl⟩ | ⟨rfl, rfl⟩ | ⟨rfl, rfl⟩
  · refine wpAny_ite (KBc.ite_yes (by decide) ?_)
    refine wpAny_bind ?_
    refine wpAny_bind (wpAny_mkInt ?_)
    refine wpAny_pure (wpAny_pure (wpAny_pure (wpAny_pure ⟨_, rfl, ?_⟩)))
    exact h _ _
  · refine wpAny_ite (KBy.ite_no (by decide) ?_)
    refine wpAny_pure ?_
    dsimp only
    rw [List.forIn_cons]
    refine wpAny_bind ?_
    show wpAny _ _ (eqBool (.str (Str.ofString "used") t1) (.str _ t) >>= _) _ _ s
    refine wpAny_bind (wpAny_eqBool_str ?_)
    refine wpAny_ite (KBc.ite_yes (by decide) ?_)
    refine wpAny_bind ?_
    refine wpAny_bind (wpAny_mkInt ?_)
    refine wpAny_pure (wpAny_pure (wpAny_pure (wpAny_pure ⟨_, rfl, ?_⟩)))
    exact h _ _
  · refine wpAny_ite (KBy.ite_no (by decide) ?_)
    refine wpAny_pure ?_
    dsimp only
    rw [List.forIn_cons]
    refine wpAny_bind ?_
    show wpAny _ _ (eqBool (.str (Str.ofString "used") t1) (.str _ t) >>= _) _ _ s
    refine wpAny_bind (wpAny_eqBool_str ?_)
    refine wpAny_ite (KBy.ite_no (by decide) ?_)
    refine wpAny_pure ?_
    dsimp only
    rw [List.forIn_cons]
    refine wpAny_bind ?_
    show wpAny _ _ (eqBool (.str (Str.ofString "packed") t2) (.str _ t) >>= _) _ _ s
    refine wpAny_bind (wpAny_eqBool_str ?_)
    refine wpAny_ite (KBc.ite_yes (by decide) ?_)
    refine wpAny_bind ?_
    refine wpAny_bind (wpAny_mkInt ?_)
    refine wpAny_pure (wpAny_pure (wpAny_pure (wpAny_pure ⟨_, rfl, ?_⟩)))
    exact h _ _
section
variable {prog : Program} {w : World} {A : Around} {E : Value → Shared → Prop} {s : Shared} {h₀ : Heap} {L a : Addr} {m : Str → Option Value}
theorem tidx_K {K : Frag} {n : Nat} {t0 t1 t2 t : Tok} {x : Str} {k : Int} {dd : Option Addr} {sl : Array (Option Value)} {Q : Value → Shared → Prop} (F : Fr h₀ L s.heap m) (X₀ : K.In h₀) (hl : K.lookup a = some ⟨.type "tuple", dd, .seq (waysA t0 t1 t2) n, sl⟩)
    (hx : x = Str.ofString "free" ∧ k = 0 ∨ x = Str.ofString "used" ∧ k = 1 ∨ x = Str.ofString "packed" ∧ k = 2)
    (h : ∀ t' tk, Q (.int k t') { s with toks := tk }) : wpAny (model prog w) A (call (.builtin "tuple.index") [.ref a, .str x t]) Q E s :=
  have ho := X₀.keeps F.keep _ _ hl
  call_meets PySem.F.slot_tuple_index ⟨_, ho, rfl⟩ PySem.F.entry_tuple_index (PySem.F.args_tuple_index_2 _ _) (meets_tidx a n t0 t1 t2 t x k hx) ⟨⟨_, ho, rfl, rfl⟩, h⟩
theorem tidx_method {K : Frag} {n : Nat} {its : Array Value} {sl : Array (Option Value)} {pl : Sem Bool} {Q : Value × List Value → Shared → Prop} (F : Fr h₀ L s.heap m) (X₀ : K.In h₀) (hl : K.lookup a = some ⟨.type "tuple", none, .seq its n, sl⟩)
    (h : Q (.builtin "tuple.index", [.ref a]) s) : wpAny (model prog w) A (getMethod (.ref a) "index" pl) Q E s :=
  have ho := X₀.keeps F.keep _ _ hl
  getMethod_builtin ⟨_, ho, rfl⟩ PySem.F.plainAttrs_tuple PySem.F.slot_tuple_index PySem.F.type_tuple_index (fun a e => by cases e; exact ⟨_, ho, rfl⟩) h
end
end
end Mine
end
section
theorem Mine.offT2 : True := by w_top off; trivial
namespace Mine
theorem idx_zero (x : Value) (xs : List Value) : seqIndex? 0 (x :: xs).toArray.size = some 0 := by
  unfold seqIndex?
  have h : ((x :: xs).toArray.size : Int) = (xs.length : Int) + 1 := by simp
  have h2 : (0 : Int) < (xs.length : Int) + 1 := by omega
  simp only [h]
  simp [h2]
local macro_rules | `(tactic| walk_at "call builtin:list.pop") => `(tactic| (k_here; (with_reducible show wpAny _ _ (call (Value.builtin _) [Value.ref _, Value.int _ _]) _ _ _); k_dflt (refine' kl_popAt (p := []) (k := 0) ?F ?N ?f ?k ?e ?U ?z ?_; (case F => k_asm); (case N => k_asm); (case U => k_upd); (case f => rfl); (case e => rfl); (case k => exact idx_zero _ _); (case z => (rename List.length _ ≤ 100 => hl9; exact Nat.le_trans hl9 (by decide +kernel)))); ki_rest))
theorem fmod_range (a m : Int) (h : 0 < m) : 0 ≤ a.fmod m ∧ a.fmod m < m := ⟨Int.fmod_nonneg_of_pos a h, Int.fmod_lt_of_pos a h⟩
theorem pen_is {pen cl : Addr} {k : Int} {tk : Tok} {r : Int} {tr : Tok} {vs : List Value} {ns : List Int} {n : Nat} {rest : Led} (hI : IntsAre vs ns) (hl : vs.length ≤ 100) (hne : @Ne Nat pen cl) (h1 : ∀ p ∈ rest, p.1 ≠ pen) (h2 : ∀ p ∈ rest, p.1 ≠ cl) :
    PenIs ((pen, W.listOf #[.ref cl, .int k tk, .int r tr] 0) :: (cl, W.listOf vs.toArray n) :: rest) pen rest := ⟨cl, k, tk, r, tr, vs, ns, n, rfl, hI, hl, hne, h1, h2⟩
noncomputable def Zdraw_does.G (w : World) (pen : Addr) (many : Int) (tm : Tok) (mean : ExcName → Option Value) (mg : Str → Option Value) (mb : Str → Option Value) (dp : Nat) (un : Nat) (gd : Option (List Code)) (cn : Str) (cs : Scope) (a : Addr) (ccd : Value) (cl' : List (Str × Addr)) (outer : List Env) (A₀ : Around) (base : Heap) (h₀ : Heap) (L : Addr) (m : Str → Option Value) (s : Shared) (Q : Value → Shared → Prop) (E : Value → Shared → Prop) : Prop :=
  ∀ (news : Led), ∀ (rest : Led), ∀ (hm : 0 < many), ∀ (hm2 : many ≤ 100000), ∀ (P : PenIs news pen rest), DoesB w 151 10 200 news [.ref pen, .int many tm] (DrawPost many pen rest) mean mg mb dp un gd cn cs a ccd cl' outer A₀ base h₀ L m s Q E
noncomputable def Zdraw_does.c : (World) × (Addr) × (Int) × (Tok) × (ExcName → Option Value) × (Str → Option Value) × (Str → Option Value) × (Nat) × (Nat) × (Option (List Code)) × (Str) × (Scope) × (Addr) × (Value) × (List (Str × Addr)) × (List Env) × (Around) × (Heap) × (Heap) × (Addr) × (Str → Option Value) × (Shared) × (Value → Shared → Prop) × (Value → Shared → Prop) :=
  @Classical.epsilon _ ⟨((aWorld 0 : World), (default : Addr), (default : Int), (default : Tok), (fun _ => none : ExcName → Option Value), (fun _ => none : Str → Option Value), (fun _ => none : Str → Option Value), (default : Nat), (default : Nat), (default : Option (List Code)), (default : Str), (default : Scope), (default : Addr), (default : Value), (default : List (Str × Addr)), (default : List Env), (callerA : Around), (default : Heap), (default : Heap), (default : Addr), (fun _ => none : Str → Option Value), ({} : Shared), (fun _ _ => True : Value → Shared → Prop), (fun _ _ => True : Value → Shared → Prop))⟩ fun x => ¬ Zdraw_does.G (x.1) (x.2.1) (x.2.2.1) (x.2.2.2.1) (x.2.2.2.2.1) (x.2.2.2.2.2.1) (x.2.2.2.2.2.2.1) (x.2.2.2.2.2.2.2.1) (x.2.2.2.2.2.2.2.2.1) (x.2.2.2.2.2.2.2.2.2.1) (x.2.2.2.2.2.2.2.2.2.2.1) (x.2.2.2.2.2.2.2.2.2.2.2.1) (x.2.2.2.2.2.2.2.2.2.2.2.2.1) (x.2.2.2.2.2.2.2.2.2.2.2.2.2.1) (x.2.2.2.2.2.2.2.2.2.2.2.2.2.2.1) (x.2.2.2.2.2.2.2.2.2.2.2.2.2.2.2.1) (x.2.2.2.2.2.2.2.2.2.2.2.2.2.2.2.2.1) (x.2.2.2.2.2.2.2.2.2.2.2.2.2.2.2.2.2.1) (x.2.2.2.2.2.2.2.2.2.2.2.2.2.2.2.2.2.2.1) (x.2.2.2.2.2.2.2.2.2.2.2.2.2.2.2.2.2.2.2.1) (x.2.2.2.2.2.2.2.2.2.2.2.2.2.2.2.2.2.2.2.2.1) (x.2.2.2.2.2.2.2.2.2.2.2.2.2.2.2.2.2.2.2.2.2.1) (x.2.2.2.2.2.2.2.2.2.2.2.2.2.2.2.2.2.2.2.2.2.2.1) (x.2.2.2.2.2.2.2.2.2.2.2.2.2.2.2.2.2.2.2.2.2.2.2)
noncomputable def Zdraw_does.V.w : World := Zdraw_does.c.1
noncomputable def Zdraw_does.V.pen : Addr := Zdraw_does.c.2.1
noncomputable def Zdraw_does.V.many : Int := Zdraw_does.c.2.2.1
noncomputable def Zdraw_does.V.tm : Tok := Zdraw_does.c.2.2.2.1
noncomputable def Zdraw_does.V.mean : ExcName → Option Value := Zdraw_does.c.2.2.2.2.1
noncomputable def Zdraw_does.V.mg : Str → Option Value := Zdraw_does.c.2.2.2.2.2.1
noncomputable def Zdraw_does.V.mb : Str → Option Value := Zdraw_does.c.2.2.2.2.2.2.1
noncomputable def Zdraw_does.V.dp : Nat := Zdraw_does.c.2.2.2.2.2.2.2.1
noncomputable def Zdraw_does.V.un : Nat := Zdraw_does.c.2.2.2.2.2.2.2.2.1
noncomputable def Zdraw_does.V.gd : Option (List Code) := Zdraw_does.c.2.2.2.2.2.2.2.2.2.1
noncomputable def Zdraw_does.V.cn : Str := Zdraw_does.c.2.2.2.2.2.2.2.2.2.2.1
noncomputable def Zdraw_does.V.cs : Scope := Zdraw_does.c.2.2.2.2.2.2.2.2.2.2.2.1
noncomputable def Zdraw_does.V.a : Addr := Zdraw_does.c.2.2.2.2.2.2.2.2.2.2.2.2.1
noncomputable def Zdraw_does.V.ccd : Value := Zdraw_does.c.2.2.2.2.2.2.2.2.2.2.2.2.2.1
noncomputable def Zdraw_does.V.cl' : List (Str × Addr) := Zdraw_does.c.2.2.2.2.2.2.2.2.2.2.2.2.2.2.1
noncomputable def Zdraw_does.V.outer : List Env := Zdraw_does.c.2.2.2.2.2.2.2.2.2.2.2.2.2.2.2.1
noncomputable def Zdraw_does.V.A₀ : Around := Zdraw_does.c.2.2.2.2.2.2.2.2.2.2.2.2.2.2.2.2.1
noncomputable def Zdraw_does.V.base : Heap := Zdraw_does.c.2.2.2.2.2.2.2.2.2.2.2.2.2.2.2.2.2.1
noncomputable def Zdraw_does.V.h₀ : Heap := Zdraw_does.c.2.2.2.2.2.2.2.2.2.2.2.2.2.2.2.2.2.2.1
noncomputable def Zdraw_does.V.L : Addr := Zdraw_does.c.2.2.2.2.2.2.2.2.2.2.2.2.2.2.2.2.2.2.2.1
noncomputable def Zdraw_does.V.m : Str → Option Value := Zdraw_does.c.2.2.2.2.2.2.2.2.2.2.2.2.2.2.2.2.2.2.2.2.1
noncomputable def Zdraw_does.V.s : Shared := Zdraw_does.c.2.2.2.2.2.2.2.2.2.2.2.2.2.2.2.2.2.2.2.2.2.1
noncomputable def Zdraw_does.V.Q : Value → Shared → Prop := Zdraw_does.c.2.2.2.2.2.2.2.2.2.2.2.2.2.2.2.2.2.2.2.2.2.2.1
noncomputable def Zdraw_does.V.E : Value → Shared → Prop := Zdraw_does.c.2.2.2.2.2.2.2.2.2.2.2.2.2.2.2.2.2.2.2.2.2.2.2
section
open Zdraw_does.V
set_option maxHeartbeats 8000000 in
theorem Zdraw_does.main : Zdraw_does.G Zdraw_does.V.w Zdraw_does.V.pen Zdraw_does.V.many Zdraw_does.V.tm Zdraw_does.V.mean Zdraw_does.V.mg Zdraw_does.V.mb Zdraw_does.V.dp Zdraw_does.V.un Zdraw_does.V.gd Zdraw_does.V.cn Zdraw_does.V.cs Zdraw_does.V.a Zdraw_does.V.ccd Zdraw_does.V.cl' Zdraw_does.V.outer Zdraw_does.V.A₀ Zdraw_does.V.base Zdraw_does.V.h₀ Zdraw_does.V.L Zdraw_does.V.m Zdraw_does.V.s Zdraw_does.V.Q Zdraw_does.V.E := by
  unfold Zdraw_does.G DoesB
  k_fill
  intro news rest hm hm2 P B F X N T hk hdp hun hret
  obtain ⟨cl, k, tk, r, tr, vs, ns, n, rfl, hI, hl, hne, hr1, hr2⟩ := P
  rcases hI with _ | ⟨c, tc, hI⟩
  all_goals (
    refine wpAny_call ?_
    k_dflt cell_enter
    k_steps
    all_goals (try (
      (rename decide (_ = []) = true => a9); exact absurd a9 (by simp; done)))
    all_goals (
      (rename Fr h₀ L _ m => F9)
      (rename News h₀ L _ _ => N9)
      first
      | exact hret _ _ _ _ ⟨_, _, rfl, (fmod_range _ _ hm).1, (fmod_range _ _ hm).2, pen_is (by first | exact hI | exact .cons _ _ hI | exact .nil) (by first | exact hl | exact Nat.le_of_succ_le hl | exact Nat.zero_le _) hne hr1 hr2⟩ F9 N9
      | exact hret _ _ _ _ ⟨_, _, rfl, (fmod_range _ _ hm).1, (fmod_range _ _ hm).2, pen_is (by first | exact hI | exact .cons _ _ hI | exact .nil) (by first | exact hl | exact Nat.le_of_succ_le hl | exact Nat.zero_le _) hne hr1 hr2⟩ F9 (fun p hp => N9 p (.tail _ hp))))
end
theorem draw_does (w : World) (news rest : Led) (pen : Addr) (many : Int) (tm : Tok) (hm : 0 < many) (hm2 : many ≤ 100000) (P : PenIs news pen rest) :
    Does w 151 10 200 news [.ref pen, .int many tm] (DrawPost many pen rest) := by
  intro mean mg mb dp un gd cn cs a ccd cl' outer A₀ base h₀ L m s Q E
  exact (Classical.byContradiction fun hn => @Classical.epsilon_spec _ (fun x : (World) × (Addr) × (Int) × (Tok) × (ExcName → Option Value) × (Str → Option Value) × (Str → Option Value) × (Nat) × (Nat) × (Option (List Code)) × (Str) × (Scope) × (Addr) × (Value) × (List (Str × Addr)) × (List Env) × (Around) × (Heap) × (Heap) × (Addr) × (Str → Option Value) × (Shared) × (Value → Shared → Prop) × (Value → Shared → Prop) => ¬ Zdraw_does.G (x.1) (x.2.1) (x.2.2.1) (x.2.2.2.1) (x.2.2.2.2.1) (x.2.2.2.2.2.1) (x.2.2.2.2.2.2.1) (x.2.2.2.2.2.2.2.1) (x.2.2.2.2.2.2.2.2.1) (x.2.2.2.2.2.2.2.2.2.1) (x.2.2.2.2.2.2.2.2.2.2.1) (x.2.2.2.2.2.2.2.2.2.2.2.1) (x.2.2.2.2.2.2.2.2.2.2.2.2.1) (x.2.2.2.2.2.2.2.2.2.2.2.2.2.1) (x.2.2.2.2.2.2.2.2.2.2.2.2.2.2.1) (x.2.2.2.2.2.2.2.2.2.2.2.2.2.2.2.1) (x.2.2.2.2.2.2.2.2.2.2.2.2.2.2.2.2.1) (x.2.2.2.2.2.2.2.2.2.2.2.2.2.2.2.2.2.1) (x.2.2.2.2.2.2.2.2.2.2.2.2.2.2.2.2.2.2.1) (x.2.2.2.2.2.2.2.2.2.2.2.2.2.2.2.2.2.2.2.1) (x.2.2.2.2.2.2.2.2.2.2.2.2.2.2.2.2.2.2.2.2.1) (x.2.2.2.2.2.2.2.2.2.2.2.2.2.2.2.2.2.2.2.2.2.1) (x.2.2.2.2.2.2.2.2.2.2.2.2.2.2.2.2.2.2.2.2.2.2.1) (x.2.2.2.2.2.2.2.2.2.2.2.2.2.2.2.2.2.2.2.2.2.2.2)) ⟨(w, pen, many, tm, mean, mg, mb, dp, un, gd, cn, cs, a, ccd, cl', outer, A₀, base, h₀, L, m, s, Q, E), hn⟩ Zdraw_does.main) news rest hm hm2 P
end Mine
end
section
theorem Mine.offT3 : True := by w_top off; trivial
namespace Mine
local macro_rules | `(tactic| walk_at "MY sides") => `(tactic| (
  (case k1 => k_asm); (case k2 => k_asm); (case k3 => k_asm); (case k4 => k_asm); (case k5 => k_asm); (case k6 => first | exact rfl | assumption); (case k7 => ktr_room); (case k8 => ktr_units)))
local macro_rules | `(tactic| walk_at "call builtin:len") => `(tactic| (k_here; k_dflt (refine' len_lst ?F ?m ?z ?_; (case F => k_asm); (case m => assumption); (case z => omega))))
local macro_rules | `(tactic| walk_at "subscriptTail") => `(tactic| (k_here; (with_reducible show wpAny _ _ (subscriptTail _ _ (Value.ref _) (Value.int _ _)) _ _ _); k_dflt (refine' item_lst ?F ?m ?a ?b ?z ?_ ?s; (case F => k_asm); (case m => assumption); (case a => omega); (case b => omega); (case z => omega); (case s => with_unfolding_all rfl)); intro v9 hv9 hx9))
set_option maxHeartbeats 8000000 in
theorem pick_does (w : World) (news rest : Led) (pen l : Addr) (its : List Value) (ep : Nat) (h1 : 0 < its.length) (h2 : its.length ≤ 10) (P : PenIs news pen rest) (hm : (l, W.listOf its.toArray ep) ∈ rest) :
    Does w 158 20 300 news [.ref pen, .ref l] (fun v news' => v ∈ its ∧ PenIs news' pen rest) := by
  unfold Does
  k_fill
  intro mean mg mb dp un gd cn cs a ccd cl' outer A₀ base h₀ L m s Q E B F X N T hk hdp hun hret
  have hin : ∀ news, PenIs news pen rest → (l, W.listOf its.toArray ep) ∈ news := by
    rintro _ ⟨cl, k, tk, r, tr, vs, ns, n, rfl, _⟩
    exact .tail _ (.tail _ hm)
  have hm2 := hin _ P
  refine wpAny_call ?_
  k_dflt cell_enter
  k_steps
  refine' does_use (draw_does _ _ rest pen _ _ (by omega) (by omega) P) ?k1 ?k2 ?k3 ?k4 ?k5 ?k6 ?k7 ?k8 ?_
  walk_at "MY sides"
  rintro _ news' h' tk' ⟨d, td, rfl, hd0, hd1, P'⟩ F' N'
  have hm3 := hin _ P'
  (try k_fold)
  k_steps
  exact hret _ _ _ _ ⟨by assumption, P'⟩ (by k_asm) (by k_asm)
end Mine
end
section
namespace Mine
section
variable {prog : Program} {w : World} {A : Around} {E : Value → Shared → Prop} {s : Shared} {env : Env} {h₀ : Heap} {target : PySem.Expr} {body : List Stmt} {Q : Flow → Shared → Prop} {m : Str → Option Value} {news : Led}
/-- a loop with any target: the assignment is left to the walk -/
theorem loop_atT {I : Addr} {fp : List Addr} {n : Nat} {P Md : Nat → Value → Heap → Prop} {St : Nat → Heap → Prop} (src : Led) (J : Nat → (Str → Option Value) → Led → Prop) (W : KTurns prog w A target I fp [I] n P Md St)
    (hfp : ∀ b ∈ fp, b = I ∨ ∃ o, (b, o) ∈ src) (hLI : env.locals ≠ I) (hI₀ : h₀.get? I = none) (hIo : ∀ i h, St i h → ∃ o, h.get? I = some o) (hst : St 0 s.heap) (F : Fr h₀ env.locals s.heap m) (N : News h₀ env.locals s.heap news)
    (hsrc : ∀ p ∈ src, p ∈ news) (hoff : ∀ p ∈ news, @Ne Nat p.1 I) (h0 : J 0 m news)
    (turn : ∀ i v m₁ news₁ oI h tk, i < n → P i v h → J i m₁ news₁ → (∀ p ∈ src, p ∈ news₁) → (∀ p ∈ news₁, @Ne Nat p.1 I) → Fr h₀ env.locals h m₁ → News h₀ env.locals h ((I, oI) :: news₁) →
      wpAny (model prog w) A (assign target env v) (fun _ s₃ => wpAny (model prog w) A (execs body env) (TurnEnd h₀ env.locals I oI src (J (i + 1)) { s with heap := h, toks := tk } Q) E s₃) E { s with heap := h, toks := tk })
    (done : ∀ h tk m' news', J n m' news' → (∀ p ∈ src, p ∈ news') → Fr h₀ env.locals h m' → News h₀ env.locals h news' → Q .next { s with heap := h, toks := tk }) :
    TurnsAt prog w A h₀ env target body Q E (.ref I) s := by
  refine ⟨I, fp, [I], n, P, Md, St, m, news, fun i m l => (∀ p ∈ src, p ∈ l) ∧ J i m l, rfl, W, ?_, ?_, ?_, hst, F, N, ⟨hsrc, h0⟩, ?_, ?_⟩
  · intro hm
    rcases hfp _ hm with h | ⟨o, h⟩
    · exact hLI h
    · exact (N _ (hsrc _ h)).2.1 rfl
  · intro b hb; rw [List.mem_singleton.mp hb]; exact hI₀
  · intro p hp hm; exact hoff p hp (List.mem_singleton.mp hm)
  · rintro i v m₁ news₁ h tk own hi hP ⟨hs, hJ⟩ hnw hown hown' hin hst₁ F₁ N₁
    have hIf : I ∈ fp := W.sub I (List.mem_singleton.mpr rfl)
    obtain ⟨oI, heI⟩ := hIo _ _ hst₁
    have hIown : (I, oI) ∈ own := hin I hIf hI₀ oI heI
    have hoff₁ : ∀ p ∈ news₁, @Ne Nat p.1 I := fun p hp e => hnw p hp (List.mem_singleton.mpr e)
    have N₂ : News h₀ env.locals h ((I, oI) :: news₁) := fun p hp => by
      rcases List.mem_cons.mp hp with rfl | hp
      · exact N₁ _ (List.mem_append_left _ hIown)
      · exact N₁ _ (List.mem_append_right _ hp)
    refine wpAny_mono (turn i v m₁ news₁ oI h tk hi hP hJ hs hoff₁ F₁ N₂) (fun _ s₄ h₄ => wpAny_mono h₄ (fun f s₃ h₃ => ?_) fun _ _ e => e) fun _ _ e => e
    have fin : (∃ h' tk' m' news', s₃ = { ({ s with heap := h, toks := tk } : Shared) with heap := h', toks := tk' } ∧ Fr h₀ env.locals h' m' ∧ News h₀ env.locals h' ((I, oI) :: news') ∧ (∀ p ∈ src, p ∈ news') ∧ (∀ p ∈ news', @Ne Nat p.1 I) ∧ J (i + 1) m' news') →
        LoopStepU h₀ env.locals [I] own (fun m l => (∀ p ∈ src, p ∈ l) ∧ J (i + 1) m l) { s with heap := h, toks := tk } .next s₃ := by
      rintro ⟨h', tk', m', news', e, F', N', hs', ho', hj'⟩
      refine ⟨rfl, h', tk', m', news', e, F', fun p hp => ?_, fun p hp hm => ho' p hp (List.mem_singleton.mp hm), hs', hj'⟩
      rcases List.mem_append.mp hp with hp | hp
      · have z := hown' p hp
        rcases hfp _ (hown p hp) with e1 | ⟨o, ho⟩
        · have e2 : p = (I, oI) := by
            obtain ⟨b, o⟩ := p
            have e3 : b = I := e1
            subst e3
            have z' : h.get? b = some o := z
            rw [show h.get? b = some oI from heI] at z'
            rw [Option.some.inj z']
          rw [e2]; exact N' _ (.head _)
        · have z2 := (N₁ _ (List.mem_append_right _ (hs _ ho))).1
          have e2 : p = (p.1, o) := by
            have z' : h.get? p.1 = some p.2 := z
            have z3 : h.get? p.1 = some o := z2
            rw [z3] at z'
            exact Prod.ext rfl (Option.some.inj z').symm
          rw [e2]; exact N' _ (.tail _ (hs' _ ho))
      · exact N' _ (.tail _ hp)
    cases f with
    | ret v => exact .ret h₃
    | brk => exact .brk h₃
    | next => exact .next (fin h₃)
    | cont => exact .cont (fin h₃)
  · rintro h' tk m' news' F' N' hnw ⟨hs, hJ⟩
    exact done h' tk m' news' hJ hs F' N'
/-- for with any target over a list of the ledger -/
theorem iter_listT {l : Addr} {its : Array Value} {ep : Nat} (J : (Str → Option Value) → Nat → (Str → Option Value) → Led → Prop) (hh : A.handled = none) (F : Fr h₀ env.locals s.heap m) (N : News h₀ env.locals s.heap news) (hm : (l, W.listOf its ep) ∈ news) (h0 : J m 0 m news)
    (turn : ∀ i v m₁ news₁ I oI h tk (QT : Flow → Shared → Prop), (∀ f s₃, TurnEnd h₀ env.locals I oI [(l, W.listOf its ep)] (J m (i + 1)) { s with heap := h, toks := tk } Q f s₃ → QT f s₃) → its[i]? = some v → J m i m₁ news₁ → (l, W.listOf its ep) ∈ news₁ → (∀ p ∈ news₁, @Ne Nat p.1 I) → Fr h₀ env.locals h m₁ → News h₀ env.locals h ((I, oI) :: news₁) →
      wpAny (model prog w) A (assign target env v) (fun _ s₃ => wpAny (model prog w) A (execs body env) QT E s₃) E { s with heap := h, toks := tk })
    (done : ∀ h tk m' news', J m its.size m' news' → (l, W.listOf its ep) ∈ news' → Fr h₀ env.locals h m' → News h₀ env.locals h news' → Q .next { s with heap := h, toks := tk }) :
    wpAny (model prog w) A (pyIter (.ref l)) (fun it s₂ => TurnsAt prog w A h₀ env target body Q E it s₂) E s := by
  have hl : s.heap.IsList l its := PySem.IsL.isList (n := ep) (N _ hm).1
  have hlt : l < s.heap.objs.size := Heap.lt_size (N _ hm).1
  refine wpAny_pyIter_list hl ?_
  refine loop_atT [(l, W.listOf its ep)] (J m) (KTurns.ofWalks (Walks.list hh s.heap.objs.size l (Nat.ne_of_lt hlt) its) fun i v s Q E st q => letGo_listiter st.1 q) ?_ (Nat.ne_of_lt F.ns.lt) (next_is_new F) (fun i h st => by obtain ⟨o, e, _⟩ := st.1; exact ⟨o, e⟩)
    ⟨⟨_, Heap.get?_push_size _ rfl, rfl, rfl⟩, hl.push _⟩ (F.push _) (fun p hp => ⟨Heap.get?_push_of_some _ (N p hp).1, (N p hp).2⟩) ?_ (fresh_off N) h0 ?_ ?_
  · intro b hb
    rcases List.mem_cons.mp hb with e | hb
    · exact .inl e
    · rw [List.mem_singleton.mp hb]; exact .inr ⟨_, List.mem_singleton.mpr rfl⟩
  · intro p hp; rw [List.mem_singleton.mp hp]; exact hm
  · intro i v m₁ news₁ oI h tk hi hP hJ hs ho F₁ N₁
    exact turn i v m₁ news₁ _ oI h tk _ (fun _ _ x => x) hP hJ (hs _ (List.mem_singleton.mpr rfl)) ho F₁ N₁
  · intro h tk m' news' hJ hs F' N'
    exact done h tk m' news' hJ (hs _ (List.mem_singleton.mpr rfl)) F' N'
end
end Mine
end
section
namespace Mine
section
variable {prog : Program} {w : World} {A : Around} {E : Value → Shared → Prop} {s : Shared} {env : Env} {h₀ : Heap} {body : List Stmt} {Q : Flow → Shared → Prop} {m : Str → Option Value} {news : Led}
/-- for over a range, the name left to the walk (it may be a cell) -/
theorem iter_rangeT {x : Str} {px : Pos} {r : Addr} {a b c : Int} {t u v : Tok} {n : Nat} (J : (Str → Option Value) → Nat → (Str → Option Value) → Led → Prop) (hh : A.handled = none) (hr : IsRange s.heap r a b c t u v) (hsm : Builtin.Range.small a b c = true) (hn : Builtin.Range.rangeSize a b c = ((n : Nat) : Int))
    (F : Fr h₀ env.locals s.heap m) (N : News h₀ env.locals s.heap news) (h0 : J m 0 m news)
    (turn : ∀ i t m₁ news₁ I oI h tk (QT : Flow → Shared → Prop), (∀ f s₃, TurnEnd h₀ env.locals I oI [] (J m (i + 1)) { s with heap := h, toks := tk } Q f s₃ → QT f s₃) → i < n → J m i m₁ news₁ → (∀ p ∈ news₁, @Ne Nat p.1 I) → Fr h₀ env.locals h m₁ → News h₀ env.locals h ((I, oI) :: news₁) →
      wpAny (model prog w) A (assign (.Name x px) env (.int (a + (i : Int) * c) t)) (fun _ s₃ => wpAny (model prog w) A (execs body env) QT E s₃) E { s with heap := h, toks := tk })
    (done : ∀ h tk m' news', J m n m' news' → Fr h₀ env.locals h m' → News h₀ env.locals h news' → Q .next { s with heap := h, toks := tk }) :
    wpAny (model prog w) A (pyIter (.ref r)) (fun it s₂ => TurnsAt prog w A h₀ env (.Name x px) body Q E it s₂) E s := by
  refine wpAny_pyIter_range hr hsm ?_
  refine loop_atT [] (J m) (KTurns.ofWalks (Walks.range hh s.heap.objs.size a c n) fun i v s Q E st q => wpAny_pure q) ?_ (Nat.ne_of_lt F.ns.lt) (next_is_new F) (fun i h st => ⟨_, st⟩)
    (by show IsRangeIter _ _ _ _ _; rw [hn]; simpa using Heap.get?_push_size _ rfl) (F.push _) (fun p hp => ⟨Heap.get?_push_of_some _ (N p hp).1, (N p hp).2⟩) (fun p hp => nomatch hp) (fresh_off N) h0 ?_ ?_
  · intro b hb; exact .inl (List.mem_singleton.mp hb)
  · rintro i v m₁ news₁ oI h tk hi ⟨t, rfl⟩ hJ hs ho F₁ N₁
    exact turn i t m₁ news₁ _ oI h tk _ (fun _ _ x => x) hi hJ ho F₁ N₁
  · intro h tk m' news' hJ hs F' N'
    exact done h tk m' news' hJ F' N'
end
end Mine
end
section
open PySem PySem.W PyProof.Rows PySem.Calls PySem.Spec
local macro_rules | `(tactic| k_mem) => `(tactic| first | assumption | exact List.Mem.head _ | (refine' List.mem_cons_of_mem _ ?_; k_mem))
local macro_rules | `(tactic| k_room) => `(tactic| ktr_room)
local macro_rules | `(tactic| size_fits) => `(tactic| first | exact Mine.fit100 (by assumption) | exact Mine.fit100' (by assumption) | fail "no")
local macro_rules | `(tactic| walk_at "MY in") => `(tactic| first | assumption | exact List.mem_cons_self | (refine List.mem_cons_of_mem _ ?_; walk_at "MY in"))
local macro_rules | `(tactic| walk_at "MY sub") => `(tactic| first | exact List.forall_mem_nil _ | (refine List.forall_mem_cons.mpr ⟨?_, ?_⟩; (walk_at "MY in"); (walk_at "MY sub")) | (intro p hp; walk_at "MY in"))
local macro_rules | `(tactic| walk_at "MY sides") => `(tactic| ((case k1 => k_asm); (case k2 => k_asm); (case k3 => k_asm); (case k4 => k_asm); (case k5 => k_asm); (case k6 => first | exact rfl | assumption); (case k7 => ktr_room); (case k8 => ktr_units)))
local macro_rules | `(tactic| walk_at "exec For") => `(tactic| (k_here; (rename Fr _ _ _ _ => lF'); (with_unfolding_all refine' For_invVF lF' ?k1 ?k2 ?_; (case k1 => exact rfl); (case k2 => exact rfl); k_whole)))
section
theorem Mine.offT5 : True := by w_top off; trivial
namespace Mine
/-- what is left of n behind i octets -/
noncomputable def rst (n : Int) : Nat → Int
  | 0 => n
  | i + 1 => (rst n i).fdiv 256
/-- the i low octets of n, the low ones first -/
noncomputable def low (n : Int) : Nat → List Int
  | 0 => []
  | i + 1 => low n i ++ [(rst n i).fmod 256]
theorem low_length (n : Int) : ∀ i, (low n i).length = i
  | 0 => rfl
  | i + 1 => by simp [low, low_length n i]
theorem low_range (n : Int) : ∀ i, ∀ x ∈ low n i, 0 ≤ x ∧ x < 256
  | 0 => fun x hx => nomatch hx
  | i + 1 => fun x hx => by
    rcases List.mem_append.mp hx with h | h
    · exact low_range n i x h
    · rw [List.mem_singleton.mp h]; exact ⟨Int.fmod_nonneg_of_pos _ (by decide), Int.fmod_lt_of_pos _ (by decide)⟩
noncomputable def octs (n : Int) (i : Nat) : Array UInt8 := byteArr (low n i).reverse
theorem ints_snoc {vs : List Value} {ns : List Int} (h : IntsAre vs ns) (x : Int) (t : Tok) : IntsAre (vs ++ [.int x t]) (ns ++ [x]) := by
  induction h with
  | nil => exact .cons x t .nil
  | cons k u r ih => exact .cons k u ih
local macro_rules | `(tactic| walk_at "subscriptTail Name Slice ref ref") => `(tactic| (k_here; (with_reducible show wpAny _ _ (subscriptTail _ (PySem.Expr.Slice none none (some _) _) (Value.ref _) (Value.ref _)) _ _ _); k_dflt (refine' krv_ints ?F ?N ?l ?k ?i ?_ ?s ?t ?z; (case F => k_asm); (case N => k_asm); (case l => exact News.isList (by k_asm) (by k_mem)); (case k => exact IsPart.int _ _); (case i => assumption); (case s => with_unfolding_all rfl); (case t => intro _; with_unfolding_all rfl); (case z => exact fit100 (by assumption))); intro D' ws' h' F' N' l1 hI' hC'; (try k_lt l1); (try k_sweep)))
local macro_rules | `(tactic| walk_at "call type:bytes") => `(tactic| (k_here; (with_reducible show wpAny _ _ (call (Value.type _) [Value.ref _]) _ _ _); k_dflt (refine' bytes_K ?F ?N ?l ?i ?r ?z ?h ?_; (case F => k_asm); (case N => k_asm); (case l => exact News.isList (by k_asm) (by k_mem)); (case i => assumption); (case r => exact fun x hx => low_range _ _ x (List.mem_reverse.mp hx)); (case z => exact fit100' (by assumption)); (case h => exact rfl)); intro h' t' k' F' N' hB'))
noncomputable def Zfo_does.G (w : World) (news : Led) (n : Int) (i : Nat) (tn : Tok) (ti : Tok) (mean : ExcName → Option Value) (mg : Str → Option Value) (mb : Str → Option Value) (dp : Nat) (un : Nat) (gd : Option (List Code)) (cn : Str) (cs : Scope) (a : Addr) (ccd : Value) (cl' : List (Str × Addr)) (outer : List Env) (A₀ : Around) (base : Heap) (h₀ : Heap) (L : Addr) (m : Str → Option Value) (s : Shared) (Q : Value → Shared → Prop) (E : Value → Shared → Prop) : Prop :=
  ∀ (hi : i ≤ 10), ∀ (h0 : rst n i = 0), DoesB w 104 10 300 news [.int n tn, .int (i : Int) ti] (fun v news' => (∃ t, v = .bytes (octs n i) t) ∧ news' = news) mean mg mb dp un gd cn cs a ccd cl' outer A₀ base h₀ L m s Q E
noncomputable def Zfo_does.c : (World) × (Led) × (Int) × (Nat) × (Tok) × (Tok) × (ExcName → Option Value) × (Str → Option Value) × (Str → Option Value) × (Nat) × (Nat) × (Option (List Code)) × (Str) × (Scope) × (Addr) × (Value) × (List (Str × Addr)) × (List Env) × (Around) × (Heap) × (Heap) × (Addr) × (Str → Option Value) × (Shared) × (Value → Shared → Prop) × (Value → Shared → Prop) :=
  @Classical.epsilon _ ⟨((aWorld 0 : World), (default : Led), (default : Int), (default : Nat), (default : Tok), (default : Tok), (fun _ => none : ExcName → Option Value), (fun _ => none : Str → Option Value), (fun _ => none : Str → Option Value), (default : Nat), (default : Nat), (default : Option (List Code)), (default : Str), (default : Scope), (default : Addr), (default : Value), (default : List (Str × Addr)), (default : List Env), (callerA : Around), (default : Heap), (default : Heap), (default : Addr), (fun _ => none : Str → Option Value), ({} : Shared), (fun _ _ => True : Value → Shared → Prop), (fun _ _ => True : Value → Shared → Prop))⟩ fun x => ¬ Zfo_does.G (x.1) (x.2.1) (x.2.2.1) (x.2.2.2.1) (x.2.2.2.2.1) (x.2.2.2.2.2.1) (x.2.2.2.2.2.2.1) (x.2.2.2.2.2.2.2.1) (x.2.2.2.2.2.2.2.2.1) (x.2.2.2.2.2.2.2.2.2.1) (x.2.2.2.2.2.2.2.2.2.2.1) (x.2.2.2.2.2.2.2.2.2.2.2.1) (x.2.2.2.2.2.2.2.2.2.2.2.2.1) (x.2.2.2.2.2.2.2.2.2.2.2.2.2.1) (x.2.2.2.2.2.2.2.2.2.2.2.2.2.2.1) (x.2.2.2.2.2.2.2.2.2.2.2.2.2.2.2.1) (x.2.2.2.2.2.2.2.2.2.2.2.2.2.2.2.2.1) (x.2.2.2.2.2.2.2.2.2.2.2.2.2.2.2.2.2.1) (x.2.2.2.2.2.2.2.2.2.2.2.2.2.2.2.2.2.2.1) (x.2.2.2.2.2.2.2.2.2.2.2.2.2.2.2.2.2.2.2.1) (x.2.2.2.2.2.2.2.2.2.2.2.2.2.2.2.2.2.2.2.2.1) (x.2.2.2.2.2.2.2.2.2.2.2.2.2.2.2.2.2.2.2.2.2.1) (x.2.2.2.2.2.2.2.2.2.2.2.2.2.2.2.2.2.2.2.2.2.2.1) (x.2.2.2.2.2.2.2.2.2.2.2.2.2.2.2.2.2.2.2.2.2.2.2.1) (x.2.2.2.2.2.2.2.2.2.2.2.2.2.2.2.2.2.2.2.2.2.2.2.2.1) (x.2.2.2.2.2.2.2.2.2.2.2.2.2.2.2.2.2.2.2.2.2.2.2.2.2)
noncomputable def Zfo_does.V.w : World := Zfo_does.c.1
noncomputable def Zfo_does.V.news : Led := Zfo_does.c.2.1
noncomputable def Zfo_does.V.n : Int := Zfo_does.c.2.2.1
noncomputable def Zfo_does.V.i : Nat := Zfo_does.c.2.2.2.1
noncomputable def Zfo_does.V.tn : Tok := Zfo_does.c.2.2.2.2.1
noncomputable def Zfo_does.V.ti : Tok := Zfo_does.c.2.2.2.2.2.1
noncomputable def Zfo_does.V.mean : ExcName → Option Value := Zfo_does.c.2.2.2.2.2.2.1
noncomputable def Zfo_does.V.mg : Str → Option Value := Zfo_does.c.2.2.2.2.2.2.2.1
noncomputable def Zfo_does.V.mb : Str → Option Value := Zfo_does.c.2.2.2.2.2.2.2.2.1
noncomputable def Zfo_does.V.dp : Nat := Zfo_does.c.2.2.2.2.2.2.2.2.2.1
noncomputable def Zfo_does.V.un : Nat := Zfo_does.c.2.2.2.2.2.2.2.2.2.2.1
noncomputable def Zfo_does.V.gd : Option (List Code) := Zfo_does.c.2.2.2.2.2.2.2.2.2.2.2.1
noncomputable def Zfo_does.V.cn : Str := Zfo_does.c.2.2.2.2.2.2.2.2.2.2.2.2.1
noncomputable def Zfo_does.V.cs : Scope := Zfo_does.c.2.2.2.2.2.2.2.2.2.2.2.2.2.1
noncomputable def Zfo_does.V.a : Addr := Zfo_does.c.2.2.2.2.2.2.2.2.2.2.2.2.2.2.1
noncomputable def Zfo_does.V.ccd : Value := Zfo_does.c.2.2.2.2.2.2.2.2.2.2.2.2.2.2.2.1
noncomputable def Zfo_does.V.cl' : List (Str × Addr) := Zfo_does.c.2.2.2.2.2.2.2.2.2.2.2.2.2.2.2.2.1
noncomputable def Zfo_does.V.outer : List Env := Zfo_does.c.2.2.2.2.2.2.2.2.2.2.2.2.2.2.2.2.2.1
noncomputable def Zfo_does.V.A₀ : Around := Zfo_does.c.2.2.2.2.2.2.2.2.2.2.2.2.2.2.2.2.2.2.1
noncomputable def Zfo_does.V.base : Heap := Zfo_does.c.2.2.2.2.2.2.2.2.2.2.2.2.2.2.2.2.2.2.2.1
noncomputable def Zfo_does.V.h₀ : Heap := Zfo_does.c.2.2.2.2.2.2.2.2.2.2.2.2.2.2.2.2.2.2.2.2.1
noncomputable def Zfo_does.V.L : Addr := Zfo_does.c.2.2.2.2.2.2.2.2.2.2.2.2.2.2.2.2.2.2.2.2.2.1
noncomputable def Zfo_does.V.m : Str → Option Value := Zfo_does.c.2.2.2.2.2.2.2.2.2.2.2.2.2.2.2.2.2.2.2.2.2.2.1
noncomputable def Zfo_does.V.s : Shared := Zfo_does.c.2.2.2.2.2.2.2.2.2.2.2.2.2.2.2.2.2.2.2.2.2.2.2.1
noncomputable def Zfo_does.V.Q : Value → Shared → Prop := Zfo_does.c.2.2.2.2.2.2.2.2.2.2.2.2.2.2.2.2.2.2.2.2.2.2.2.2.1
noncomputable def Zfo_does.V.E : Value → Shared → Prop := Zfo_does.c.2.2.2.2.2.2.2.2.2.2.2.2.2.2.2.2.2.2.2.2.2.2.2.2.2
section
open Zfo_does.V
set_option maxHeartbeats 8000000 in
theorem Zfo_does.main : Zfo_does.G Zfo_does.V.w Zfo_does.V.news Zfo_does.V.n Zfo_does.V.i Zfo_does.V.tn Zfo_does.V.ti Zfo_does.V.mean Zfo_does.V.mg Zfo_does.V.mb Zfo_does.V.dp Zfo_does.V.un Zfo_does.V.gd Zfo_does.V.cn Zfo_does.V.cs Zfo_does.V.a Zfo_does.V.ccd Zfo_does.V.cl' Zfo_does.V.outer Zfo_does.V.A₀ Zfo_does.V.base Zfo_does.V.h₀ Zfo_does.V.L Zfo_does.V.m Zfo_does.V.s Zfo_does.V.Q Zfo_does.V.E := by
  unfold Zfo_does.G DoesB
  k_fill
  intro hi h0 B F X N T hk hdp hun hret
  refine wpAny_call ?_
  k_dflt cell_enter
  ((repeat' ( (fail_if_success (with_reducible show wpAny _ _ (pyIter (Value.ref _)) _ _ _)); (fail_if_success (with_reducible show wpAny _ _ (call (Value.ref _) _) _ _ _)); (first | (k_unfold; (try dsimp only)) | (k_end; wrow_close) | walk1 | (dsimp only; walk1) | (leave1; walk_say "STEP leave1"; try dsimp only) | fail "no step"))); all_goals (try k_fold))
  (rename Fr _ _ _ _ => lF')
  (rename News _ _ _ _ => lN')
  (rename IsRange _ _ _ _ _ _ _ _ => lR)
  obtain ⟨D, hD, -⟩ := led_1 lN'
  subst hD
  have hD9 : ∀ p ∈ news, @Ne Nat p.1 D := fun p hp => Nat.ne_of_lt ((by assumption : ∀ p ∈ news, p.1 < D) p hp)
  refine iter_range (n := i) (fun m₀ j m₁ l => ∃ ts its ep, l = (D, W.listOf (List.toArray its) ep) :: news ∧ IntsAre its (low n j) ∧ m₁ (Str.ofString "rest") = some (.int (rst n j) ts) ∧ ∀ y, y ≠ Str.ofString "turn" → y ≠ Str.ofString "rest" → m₁ y = m₀ y)
    rfl lR (range_small (by omega) (by omega) (by omega) (by omega)) (by rw [range_size (by omega)]; omega) lF' lN' ⟨_, [], 0, rfl, .nil, rfl, fun _ _ _ => rfl⟩ ?_ ?_
  · rintro j t m₁ _ I oI h tk QT hQT hj ⟨ts, its, ep, rfl, hI, hr, hm⟩ ho F₁ N₁
    have F₂ := fr1 F₁ hr hm
    have hz9 : its.length ≤ 100 := by rw [hI.length, low_length]; omega
    clear F₁ lF' lN'
    try k_fold
    have hID := ho _ (.head _)
    dsimp only at hID
    ((repeat' ( (fail_if_success (with_reducible show wpAny _ _ (pyIter (Value.ref _)) _ _ _)); (fail_if_success (with_reducible show wpAny _ _ (call (Value.ref _) _) _ _ _)); (first | (k_unfold; (try dsimp only)) | (k_end; wrow_close) | walk1 | (dsimp only; walk1) | (leave1; walk_say "STEP leave1"; try dsimp only) | fail "no step"))); all_goals (try k_fold))
    (rename Fr _ _ _ _ => lF')
    (rename News _ _ _ _ => lN')
    (try rw [List.push_toArray] at lN')
    exact hQT _ _ <| TurnEnd.next lF' lN' (fun _ h => nomatch h) (by simpa using ho) ⟨_, _, _, rfl, ints_snoc hI _ _, rfl, fun y h1 h2 => by simp [h1, h2, hm y h1 h2]⟩
  · rintro h tk m' _ ⟨ts, its, ep, rfl, hI, hr, hm⟩ F₁ N₁
    have F₂ := fro1 F₁ hr hm
    have hz9 : its.length ≤ 100 := by rw [hI.length, low_length]; omega
    clear F₁ lF' lN'
    try k_fold
    ((repeat' ( (fail_if_success (with_reducible show wpAny _ _ (pyIter (Value.ref _)) _ _ _)); (fail_if_success (with_reducible show wpAny _ _ (call (Value.ref _) _) _ _ _)); (first | (k_unfold; (try dsimp only)) | (k_end; wrow_close) | walk1 | (dsimp only; walk1) | (leave1; walk_say "STEP leave1"; try dsimp only) | fail "no step"))); all_goals (try k_fold))
    · exact absurd h0 (by assumption)
    · (rename IntsAre _ (low n i).reverse => hI9)
      have hz8 := hI9.length
      rw [List.length_reverse, low_length] at hz8
      have hz7 : List.length _ ≤ 100 := Nat.le_trans (Nat.le_of_eq hz8) (by omega)
      ((repeat' ( (fail_if_success (with_reducible show wpAny _ _ (pyIter (Value.ref _)) _ _ _)); (fail_if_success (with_reducible show wpAny _ _ (call (Value.ref _) _) _ _ _)); (first | (k_unfold; (try dsimp only)) | (k_end; wrow_close) | walk1 | (dsimp only; walk1) | (leave1; walk_say "STEP leave1"; try dsimp only) | fail "no step"))); all_goals (try k_fold))
      exact hret _ _ _ _ ⟨⟨_, rfl⟩, rfl⟩ (by k_asm) (news_sub (by k_asm) fun p hp => .tail _ (.tail _ hp))
end
theorem fo_does (w : World) (news : Led) (n : Int) (i : Nat) (tn ti : Tok) (hi : i ≤ 10) (h0 : rst n i = 0) :
    Does w 104 10 300 news [.int n tn, .int (i : Int) ti] (fun v news' => (∃ t, v = .bytes (octs n i) t) ∧ news' = news) := by
  intro mean mg mb dp un gd cn cs a ccd cl' outer A₀ base h₀ L m s Q E
  exact (Classical.byContradiction fun hn => @Classical.epsilon_spec _ (fun x : (World) × (Led) × (Int) × (Nat) × (Tok) × (Tok) × (ExcName → Option Value) × (Str → Option Value) × (Str → Option Value) × (Nat) × (Nat) × (Option (List Code)) × (Str) × (Scope) × (Addr) × (Value) × (List (Str × Addr)) × (List Env) × (Around) × (Heap) × (Heap) × (Addr) × (Str → Option Value) × (Shared) × (Value → Shared → Prop) × (Value → Shared → Prop) => ¬ Zfo_does.G (x.1) (x.2.1) (x.2.2.1) (x.2.2.2.1) (x.2.2.2.2.1) (x.2.2.2.2.2.1) (x.2.2.2.2.2.2.1) (x.2.2.2.2.2.2.2.1) (x.2.2.2.2.2.2.2.2.1) (x.2.2.2.2.2.2.2.2.2.1) (x.2.2.2.2.2.2.2.2.2.2.1) (x.2.2.2.2.2.2.2.2.2.2.2.1) (x.2.2.2.2.2.2.2.2.2.2.2.2.1) (x.2.2.2.2.2.2.2.2.2.2.2.2.2.1) (x.2.2.2.2.2.2.2.2.2.2.2.2.2.2.1) (x.2.2.2.2.2.2.2.2.2.2.2.2.2.2.2.1) (x.2.2.2.2.2.2.2.2.2.2.2.2.2.2.2.2.1) (x.2.2.2.2.2.2.2.2.2.2.2.2.2.2.2.2.2.1) (x.2.2.2.2.2.2.2.2.2.2.2.2.2.2.2.2.2.2.1) (x.2.2.2.2.2.2.2.2.2.2.2.2.2.2.2.2.2.2.2.1) (x.2.2.2.2.2.2.2.2.2.2.2.2.2.2.2.2.2.2.2.2.1) (x.2.2.2.2.2.2.2.2.2.2.2.2.2.2.2.2.2.2.2.2.2.1) (x.2.2.2.2.2.2.2.2.2.2.2.2.2.2.2.2.2.2.2.2.2.2.1) (x.2.2.2.2.2.2.2.2.2.2.2.2.2.2.2.2.2.2.2.2.2.2.2.1) (x.2.2.2.2.2.2.2.2.2.2.2.2.2.2.2.2.2.2.2.2.2.2.2.2.1) (x.2.2.2.2.2.2.2.2.2.2.2.2.2.2.2.2.2.2.2.2.2.2.2.2.2)) ⟨(w, news, n, i, tn, ti, mean, mg, mb, dp, un, gd, cn, cs, a, ccd, cl', outer, A₀, base, h₀, L, m, s, Q, E), hn⟩ Zfo_does.main) hi h0
end Mine
end
section
theorem Mine.offT12 : True := by w_top off; trivial
namespace Mine
/-- a call of the def at f raises CrossFault, seen from its caller -/
noncomputable def Fails (w : World) (f : Addr) (D U : Nat) (news : Led) (vs : List Value) : Prop :=
  ∀ (mean : ExcName → Option Value) (mg mb : Str → Option Value) (dp un : Nat) (gd : Option (List Code)) (cn : Str) (cs : Scope) (a : Addr) (ccd : Value) (cl : List (Str × Addr)) (outer : List Env)
    (A₀ : Around) (base h₀ : Heap) (L : Addr) (m : Str → Option Value) (s : Shared) (Q E : Value → Shared → Prop),
    Below A₀ base outer h₀ → Fr h₀ L s.heap m → (hd.heap_1 w.params).In h₀ → News h₀ L s.heap news →
    Top hview (looseW hview [Str.ofString "PaperError"]) mean mg mb h₀ → cs.kind = .function →
    dp + D < recursionLimit → un + U < cLine →
    (∀ e h' tk' g₂, RaisedN base (envX cn cs L a ccd cl :: outer) e (.ref 87) news h' → Fr h₀ L g₂ m → g₂.UpToSlots h' → E (.ref e) { s with heap := h', toks := tk' }) →
    wpAny (model PySem.Challenge.rw_og0136_01.row.prog w) (ktrTop dp un gd cn cs L a ccd cl outer) (call (.ref f) vs) Q E s
noncomputable def FailsB (w : World) (f : Addr) (D U : Nat) (news : Led) (vs : List Value) (mean : ExcName → Option Value) (mg mb : Str → Option Value) (dp un : Nat) (gd : Option (List Code)) (cn : Str) (cs : Scope) (a : Addr) (ccd : Value) (cl : List (Str × Addr)) (outer : List Env)
    (A₀ : Around) (base h₀ : Heap) (L : Addr) (m : Str → Option Value) (s : Shared) (Q E : Value → Shared → Prop) : Prop :=
    Below A₀ base outer h₀ → Fr h₀ L s.heap m → (hd.heap_1 w.params).In h₀ → News h₀ L s.heap news →
    Top hview (looseW hview [Str.ofString "PaperError"]) mean mg mb h₀ → cs.kind = .function →
    dp + D < recursionLimit → un + U < cLine →
    (∀ e h' tk' g₂, RaisedN base (envX cn cs L a ccd cl :: outer) e (.ref 87) news h' → Fr h₀ L g₂ m → g₂.UpToSlots h' → E (.ref e) { s with heap := h', toks := tk' }) →
    wpAny (model PySem.Challenge.rw_og0136_01.row.prog w) (ktrTop dp un gd cn cs L a ccd cl outer) (call (.ref f) vs) Q E s
theorem fails_use {w : World} {f : Addr} {D U : Nat} {news : Led} {vs : List Value} (C : Fails w f D U news vs) {mean : ExcName → Option Value} {mg mb : Str → Option Value} {dp un : Nat} {gd : Option (List Code)} {cn : Str} {cs : Scope} {a : Addr} {ccd : Value} {cl : List (Str × Addr)} {outer : List Env}
    {A₀ : Around} {base h₀ : Heap} {L : Addr} {m : Str → Option Value} {s : Shared} {Q E : Value → Shared → Prop}
    (B : Below A₀ base outer h₀) (F : Fr h₀ L s.heap m) (X : (hd.heap_1 w.params).In h₀) (N : News h₀ L s.heap news) (T : Top hview (looseW hview [Str.ofString "PaperError"]) mean mg mb h₀) (hk : cs.kind = .function)
    (hd : dp + D < recursionLimit) (hu : un + U < cLine)
    (exc : ∀ e h' tk' g₂, RaisedN base (envX cn cs L a ccd cl :: outer) e (.ref 87) news h' → Fr h₀ L g₂ m → g₂.UpToSlots h' → E (.ref e) { s with heap := h', toks := tk' }) :
    wpAny (model PySem.Challenge.rw_og0136_01.row.prog w) (ktrTop dp un gd cn cs L a ccd cl outer) (call (.ref f) vs) Q E s :=
  C _ _ _ _ _ _ _ _ _ _ _ _ _ _ _ _ _ _ _ _ B F X N T hk hd hu exc
local macro_rules | `(tactic| walk_at "exec Raise some none") => `(tactic| (k_here; (refine raise_own rfl ?_)))
local macro_rules | `(tactic| walk_at "getMethod type:Exception") => `(tactic| (k_here; refine' method_type ?F ?X meta_exc (by decide +kernel) (find_exc w) ?h ?_; (case F => k_asm); (case X => k_asm); (case h => k_handed)))
local macro_rules | `(tactic| walk_at "call builtin:Exception.__init__") => `(tactic| (k_here; k_dflt (refine' exc_init_K ?my1 ?my2 ?my3 ?my4 ?my5 ?_; (case my1 => k_asm); (case my2 => k_asm); (case my3 => k_asm); (case my4 => assumption); (case my5 => (show 1 ≤ sizeLine; rw [sizeLine_eq]; omega))); intro t2 h' F' N' l1 l2))
local macro_rules | `(tactic| walk_at "setAttr ref") => `(tactic| (k_here; k_dflt (first
  | (refine' exc_set1 ?my1 ?my2 ?my3 (fault_what w) ?my5 ?_; (case my1 => k_asm); (case my2 => k_asm); (case my3 => k_asm); (case my5 => assumption); intro h' tk d tk2 F' N' l1 l2)
  | (refine' exc_set2 ?my1 ?my2 ?my3 (fault_at w) ?my5 ?my6 ?my7 ?my8 ?_; (case my1 => k_asm); (case my2 => k_asm); (case my3 => k_asm); (case my5 => assumption); (case my6 => assumption); (case my7 => rfl); (case my8 => decide); intro h' tk od F' N'))))
set_option maxHeartbeats 8000000 in
theorem fault_does (w : World) (news : Led) (msg : Str) (tm : Tok) :
    Does w 87 5 200 news [.str msg tm] (fun v news' => ∃ x t d extra, v = .ref x ∧ news' = (x, excObjD t d) :: extra ∧ (∀ p ∈ news, p ∈ extra) ∧ (∀ p ∈ extra, @Ne Nat p.1 x)) := by
  unfold Does
  k_fill
  intro mean mg mb dp un gd cn cs a ccd cl' outer A₀ base h₀ L m s Q E B F X N T hk hdp hun hret
  refine fault_K F X N (by show 1 ≤ sizeLine; rw [sizeLine_eq]; omega) ?_
  intro x t h' F' N' l1 l2
  have hxt : @Ne Nat t x := Nat.ne_of_lt l2
  have hxn : ∀ p ∈ (t, tupObj [Value.str msg tm]) :: news, @Ne Nat p.1 x := List.forall_mem_cons.mpr ⟨hxt, fun p hp => Nat.ne_of_lt (Nat.lt_trans (l1 p hp) l2)⟩
  clear F N
  refine wpAny_call ?_
  k_dflt ((refine' code_def ?k1 ?k2 ?k3 ?k4 ?k5 ?kA ?kF ?kK ?k6 ?k7 ?k8 ?k9 ?kB ?_ ?c2 ?c3 ?c4 ?c5; (case kA => exact rfl); (case kF => exact rfl); (case kK => assumption); (case k1 => k_asm); (case k2 => k_asm); (case k3 => k_asm); (case k4 => k_asm); (case k5 => k_asm); (case k6 => k_is); (case k7 => k_is); (case k8 => ktr_room); (case k9 => first | exact BindsTo.of_eq rfl | exact binds_K (by k_in) rfl (by k_is) rfl rfl rfl); (case c5 => decide); (case kB => exact locs rfl); (case c2 => exact rfl); (case c3 => exact rfl); (case c4 => exact rfl); k_whole; intro g' L' h' FG' F' N' B' X' T'; (try dsimp only); (try k_lift B'); (try k_fold)))
  ((repeat' ( (fail_if_success (with_reducible show wpAny _ _ (pyIter (Value.ref _)) _ _ _)); (fail_if_success (with_reducible show wpAny _ _ (call (Value.ref _) _) _ _ _)); (first | (k_unfold; (try dsimp only)) | (k_end; wrow_close) | walk1 | (dsimp only; walk1) | (leave1; walk_say "STEP leave1"; try dsimp only) | fail "no step"))); all_goals (try k_fold))
  refine method_type (by k_asm) (by k_asm) meta_exc (by decide +kernel) (find_exc w) (by k_handed) ?_
  ((repeat' ( (fail_if_success (with_reducible show wpAny _ _ (pyIter (Value.ref _)) _ _ _)); (fail_if_success (with_reducible show wpAny _ _ (call (Value.ref _) _) _ _ _)); (first | (k_unfold; (try dsimp only)) | (k_end; wrow_close) | walk1 | (dsimp only; walk1) | (leave1; walk_say "STEP leave1"; try dsimp only) | fail "no step"))); all_goals (try k_fold))
  (rename Fr _ _ _ _ => lF')
  (rename News _ _ _ ((x, _) :: (_, tupObj [Value.str msg tm]) :: (t, _) :: news) => lN')
  (rename ∀ p ∈ (t, tupObj [Value.str msg tm]) :: news, _ < _ => l3)
  (rename x < _ => l6)
  refine exc_set1 lF' (by k_asm) lN' (fault_what w) (List.forall_mem_cons.mpr ⟨Nat.ne_of_gt (by assumption), hxn⟩) ?_
  intro h2 tk2 d tk3 F2 N2 l4 l5
  have hdn : ∀ p ∈ (_, tupObj [Value.str msg tm]) :: (t, tupObj [Value.str msg tm]) :: news, @Ne Nat p.1 d := fun p hp => Nat.ne_of_lt (l4 p hp)
  clear lF' lN'
  try k_fold
  ((repeat' ( (fail_if_success (with_reducible show wpAny _ _ (pyIter (Value.ref _)) _ _ _)); (fail_if_success (with_reducible show wpAny _ _ (call (Value.ref _) _) _ _ _)); (first | (k_unfold; (try dsimp only)) | (k_end; wrow_close) | walk1 | (dsimp only; walk1) | (leave1; walk_say "STEP leave1"; try dsimp only) | fail "no step"))); all_goals (try k_fold))
  refine exc_set2 F2 (by k_asm) N2 (fault_at w) (Nat.ne_of_lt l5) hdn rfl (by simp) ?_
  intro h3 tk4 od F3 N3
  clear F2 N2
  try k_fold
  ((repeat' ( (fail_if_success (with_reducible show wpAny _ _ (pyIter (Value.ref _)) _ _ _)); (fail_if_success (with_reducible show wpAny _ _ (call (Value.ref _) _) _ _ _)); (first | (k_unfold; (try dsimp only)) | (k_end; wrow_close) | walk1 | (dsimp only; walk1) | (leave1; walk_say "STEP leave1"; try dsimp only) | fail "no step"))); all_goals (try k_fold))
  exact hret _ _ _ _ ⟨x, _, d, _, rfl, rfl, fun p hp => .tail _ (.tail _ (.tail _ hp)), List.forall_mem_cons.mpr ⟨Nat.ne_of_gt l5, List.forall_mem_cons.mpr ⟨Nat.ne_of_gt l6, hxn⟩⟩⟩ (by k_asm) (by k_asm)
noncomputable def Zfo_fails.G (w : World) (news : Led) (n : Int) (i : Nat) (tn : Tok) (ti : Tok) (mean : ExcName → Option Value) (mg : Str → Option Value) (mb : Str → Option Value) (dp : Nat) (un : Nat) (gd : Option (List Code)) (cn : Str) (cs : Scope) (a : Addr) (ccd : Value) (cl' : List (Str × Addr)) (outer : List Env) (A₀ : Around) (base : Heap) (h₀ : Heap) (L : Addr) (m : Str → Option Value) (s : Shared) (Q : Value → Shared → Prop) (E : Value → Shared → Prop) : Prop :=
  ∀ (hi : i ≤ 10), ∀ (hn0 : 0 ≤ n), ∀ (hn1 : n ≤ 100000000), ∀ (h0 : rst n i ≠ 0), FailsB w 104 20 600 news [.int n tn, .int (i : Int) ti] mean mg mb dp un gd cn cs a ccd cl' outer A₀ base h₀ L m s Q E
noncomputable def Zfo_fails.c : (World) × (Led) × (Int) × (Nat) × (Tok) × (Tok) × (ExcName → Option Value) × (Str → Option Value) × (Str → Option Value) × (Nat) × (Nat) × (Option (List Code)) × (Str) × (Scope) × (Addr) × (Value) × (List (Str × Addr)) × (List Env) × (Around) × (Heap) × (Heap) × (Addr) × (Str → Option Value) × (Shared) × (Value → Shared → Prop) × (Value → Shared → Prop) :=
  @Classical.epsilon _ ⟨((aWorld 0 : World), (default : Led), (default : Int), (default : Nat), (default : Tok), (default : Tok), (fun _ => none : ExcName → Option Value), (fun _ => none : Str → Option Value), (fun _ => none : Str → Option Value), (default : Nat), (default : Nat), (default : Option (List Code)), (default : Str), (default : Scope), (default : Addr), (default : Value), (default : List (Str × Addr)), (default : List Env), (callerA : Around), (default : Heap), (default : Heap), (default : Addr), (fun _ => none : Str → Option Value), ({} : Shared), (fun _ _ => True : Value → Shared → Prop), (fun _ _ => True : Value → Shared → Prop))⟩ fun x => ¬ Zfo_fails.G (x.1) (x.2.1) (x.2.2.1) (x.2.2.2.1) (x.2.2.2.2.1) (x.2.2.2.2.2.1) (x.2.2.2.2.2.2.1) (x.2.2.2.2.2.2.2.1) (x.2.2.2.2.2.2.2.2.1) (x.2.2.2.2.2.2.2.2.2.1) (x.2.2.2.2.2.2.2.2.2.2.1) (x.2.2.2.2.2.2.2.2.2.2.2.1) (x.2.2.2.2.2.2.2.2.2.2.2.2.1) (x.2.2.2.2.2.2.2.2.2.2.2.2.2.1) (x.2.2.2.2.2.2.2.2.2.2.2.2.2.2.1) (x.2.2.2.2.2.2.2.2.2.2.2.2.2.2.2.1) (x.2.2.2.2.2.2.2.2.2.2.2.2.2.2.2.2.1) (x.2.2.2.2.2.2.2.2.2.2.2.2.2.2.2.2.2.1) (x.2.2.2.2.2.2.2.2.2.2.2.2.2.2.2.2.2.2.1) (x.2.2.2.2.2.2.2.2.2.2.2.2.2.2.2.2.2.2.2.1) (x.2.2.2.2.2.2.2.2.2.2.2.2.2.2.2.2.2.2.2.2.1) (x.2.2.2.2.2.2.2.2.2.2.2.2.2.2.2.2.2.2.2.2.2.1) (x.2.2.2.2.2.2.2.2.2.2.2.2.2.2.2.2.2.2.2.2.2.2.1) (x.2.2.2.2.2.2.2.2.2.2.2.2.2.2.2.2.2.2.2.2.2.2.2.1) (x.2.2.2.2.2.2.2.2.2.2.2.2.2.2.2.2.2.2.2.2.2.2.2.2.1) (x.2.2.2.2.2.2.2.2.2.2.2.2.2.2.2.2.2.2.2.2.2.2.2.2.2)
noncomputable def Zfo_fails.V.w : World := Zfo_fails.c.1
noncomputable def Zfo_fails.V.news : Led := Zfo_fails.c.2.1
noncomputable def Zfo_fails.V.n : Int := Zfo_fails.c.2.2.1
noncomputable def Zfo_fails.V.i : Nat := Zfo_fails.c.2.2.2.1
noncomputable def Zfo_fails.V.tn : Tok := Zfo_fails.c.2.2.2.2.1
noncomputable def Zfo_fails.V.ti : Tok := Zfo_fails.c.2.2.2.2.2.1
noncomputable def Zfo_fails.V.mean : ExcName → Option Value := Zfo_fails.c.2.2.2.2.2.2.1
noncomputable def Zfo_fails.V.mg : Str → Option Value := Zfo_fails.c.2.2.2.2.2.2.2.1
noncomputable def Zfo_fails.V.mb : Str → Option Value := Zfo_fails.c.2.2.2.2.2.2.2.2.1
noncomputable def Zfo_fails.V.dp : Nat := Zfo_fails.c.2.2.2.2.2.2.2.2.2.1
noncomputable def Zfo_fails.V.un : Nat := Zfo_fails.c.2.2.2.2.2.2.2.2.2.2.1
noncomputable def Zfo_fails.V.gd : Option (List Code) := Zfo_fails.c.2.2.2.2.2.2.2.2.2.2.2.1
noncomputable def Zfo_fails.V.cn : Str := Zfo_fails.c.2.2.2.2.2.2.2.2.2.2.2.2.1
noncomputable def Zfo_fails.V.cs : Scope := Zfo_fails.c.2.2.2.2.2.2.2.2.2.2.2.2.2.1
noncomputable def Zfo_fails.V.a : Addr := Zfo_fails.c.2.2.2.2.2.2.2.2.2.2.2.2.2.2.1
noncomputable def Zfo_fails.V.ccd : Value := Zfo_fails.c.2.2.2.2.2.2.2.2.2.2.2.2.2.2.2.1
noncomputable def Zfo_fails.V.cl' : List (Str × Addr) := Zfo_fails.c.2.2.2.2.2.2.2.2.2.2.2.2.2.2.2.2.1
noncomputable def Zfo_fails.V.outer : List Env := Zfo_fails.c.2.2.2.2.2.2.2.2.2.2.2.2.2.2.2.2.2.1
noncomputable def Zfo_fails.V.A₀ : Around := Zfo_fails.c.2.2.2.2.2.2.2.2.2.2.2.2.2.2.2.2.2.2.1
noncomputable def Zfo_fails.V.base : Heap := Zfo_fails.c.2.2.2.2.2.2.2.2.2.2.2.2.2.2.2.2.2.2.2.1
noncomputable def Zfo_fails.V.h₀ : Heap := Zfo_fails.c.2.2.2.2.2.2.2.2.2.2.2.2.2.2.2.2.2.2.2.2.1
noncomputable def Zfo_fails.V.L : Addr := Zfo_fails.c.2.2.2.2.2.2.2.2.2.2.2.2.2.2.2.2.2.2.2.2.2.1
noncomputable def Zfo_fails.V.m : Str → Option Value := Zfo_fails.c.2.2.2.2.2.2.2.2.2.2.2.2.2.2.2.2.2.2.2.2.2.2.1
noncomputable def Zfo_fails.V.s : Shared := Zfo_fails.c.2.2.2.2.2.2.2.2.2.2.2.2.2.2.2.2.2.2.2.2.2.2.2.1
noncomputable def Zfo_fails.V.Q : Value → Shared → Prop := Zfo_fails.c.2.2.2.2.2.2.2.2.2.2.2.2.2.2.2.2.2.2.2.2.2.2.2.2.1
noncomputable def Zfo_fails.V.E : Value → Shared → Prop := Zfo_fails.c.2.2.2.2.2.2.2.2.2.2.2.2.2.2.2.2.2.2.2.2.2.2.2.2.2
section
open Zfo_fails.V
set_option maxHeartbeats 8000000 in
theorem Zfo_fails.main : Zfo_fails.G Zfo_fails.V.w Zfo_fails.V.news Zfo_fails.V.n Zfo_fails.V.i Zfo_fails.V.tn Zfo_fails.V.ti Zfo_fails.V.mean Zfo_fails.V.mg Zfo_fails.V.mb Zfo_fails.V.dp Zfo_fails.V.un Zfo_fails.V.gd Zfo_fails.V.cn Zfo_fails.V.cs Zfo_fails.V.a Zfo_fails.V.ccd Zfo_fails.V.cl' Zfo_fails.V.outer Zfo_fails.V.A₀ Zfo_fails.V.base Zfo_fails.V.h₀ Zfo_fails.V.L Zfo_fails.V.m Zfo_fails.V.s Zfo_fails.V.Q Zfo_fails.V.E := by
  unfold Zfo_fails.G FailsB
  k_fill
  intro hi hn0 hn1 h0 B F X N T hk hdp hun hexc
  refine wpAny_call ?_
  k_dflt cell_enter
  ((repeat' ( (fail_if_success (with_reducible show wpAny _ _ (pyIter (Value.ref _)) _ _ _)); (fail_if_success (with_reducible show wpAny _ _ (call (Value.ref _) _) _ _ _)); (first | (k_unfold; (try dsimp only)) | (k_end; wrow_close) | walk1 | (dsimp only; walk1) | (leave1; walk_say "STEP leave1"; try dsimp only) | fail "no step"))); all_goals (try k_fold))
  (rename Fr _ _ _ _ => lF')
  (rename News _ _ _ _ => lN')
  (rename IsRange _ _ _ _ _ _ _ _ => lR)
  obtain ⟨D, hD, -⟩ := led_1 lN'
  subst hD
  have hD9 : ∀ p ∈ news, @Ne Nat p.1 D := fun p hp => Nat.ne_of_lt ((by assumption : ∀ p ∈ news, p.1 < D) p hp)
  refine iter_range (n := i) (fun m₀ j m₁ l => ∃ ts its ep, l = (D, W.listOf (List.toArray its) ep) :: news ∧ IntsAre its (low n j) ∧ m₁ (Str.ofString "rest") = some (.int (rst n j) ts) ∧ ∀ y, y ≠ Str.ofString "turn" → y ≠ Str.ofString "rest" → m₁ y = m₀ y)
    rfl lR (range_small (by omega) (by omega) (by omega) (by omega)) (by rw [range_size (by omega)]; omega) lF' lN' ⟨_, [], 0, rfl, .nil, rfl, fun _ _ _ => rfl⟩ ?_ ?_
  · rintro j t m₁ _ I oI h tk QT hQT hj ⟨ts, its, ep, rfl, hI, hr, hm⟩ ho F₁ N₁
    have F₂ := fr1 F₁ hr hm
    have hz9 : its.length ≤ 100 := by rw [hI.length, low_length]; omega
    clear F₁ lF' lN'
    try k_fold
    have hID := ho _ (.head _)
    dsimp only at hID
    ((repeat' ( (fail_if_success (with_reducible show wpAny _ _ (pyIter (Value.ref _)) _ _ _)); (fail_if_success (with_reducible show wpAny _ _ (call (Value.ref _) _) _ _ _)); (first | (k_unfold; (try dsimp only)) | (k_end; wrow_close) | walk1 | (dsimp only; walk1) | (leave1; walk_say "STEP leave1"; try dsimp only) | fail "no step"))); all_goals (try k_fold))
    (rename Fr _ _ _ _ => lF')
    (rename News _ _ _ _ => lN')
    (try rw [List.push_toArray] at lN')
    exact hQT _ _ <| TurnEnd.next lF' lN' (fun _ h => nomatch h) (by simpa using ho) ⟨_, _, _, rfl, ints_snoc hI _ _, rfl, fun y h1 h2 => by simp [h1, h2, hm y h1 h2]⟩
  · rintro h tk m' _ ⟨ts, its, ep, rfl, hI, hr, hm⟩ F₁ N₁
    have F₂ := fro1 F₁ hr hm
    have hz9 : its.length ≤ 100 := by rw [hI.length, low_length]; omega
    clear F₁ lF' lN'
    try k_fold
    ((repeat' ( (fail_if_success (with_reducible show wpAny _ _ (pyIter (Value.ref _)) _ _ _)); (fail_if_success (with_reducible show wpAny _ _ (call (Value.ref _) _) _ _ _)); (first | (k_unfold; (try dsimp only)) | (k_end; wrow_close) | walk1 | (dsimp only; walk1) | (leave1; walk_say "STEP leave1"; try dsimp only) | fail "no step"))); all_goals (try k_fold))
    · refine' does_use (fault_does w _ _ _) ?k1 ?k2 ?k3 ?k4 ?k5 ?k6 ?k7 ?k8 ?_
      walk_at "MY sides"
      rintro v9 news9 h9 tk9 ⟨x, t, d, extra, rfl, rfl, hsub, hne⟩ F9 N9
      refine ⟨x, _, _, rfl, (N9 _ (.head _)).1, rfl, rfl, rfl, Frag.In.keeps (by k_asm) F9.keep, ?_⟩
      refine leave_fault (news := news) (by assumption) F9 (news_sub N9 fun p hp => .tail _ (hsub p (.tail _ hp))) (news_sub N9 fun p hp => by rw [List.mem_singleton.mp hp]; exact .head _) rfl rfl rfl rfl (fun p hp => hne p (hsub p (.tail _ hp))) fun h' R U => ?_
      exact hexc _ _ _ _ R (by assumption) U
    · exact absurd (by assumption) h0
end
theorem fo_fails (w : World) (news : Led) (n : Int) (i : Nat) (tn ti : Tok) (hi : i ≤ 10) (hn0 : 0 ≤ n) (hn1 : n ≤ 100000000) (h0 : rst n i ≠ 0) :
    Fails w 104 20 600 news [.int n tn, .int (i : Int) ti] := by
  intro mean mg mb dp un gd cn cs a ccd cl' outer A₀ base h₀ L m s Q E
  exact (Classical.byContradiction fun hn => @Classical.epsilon_spec _ (fun x : (World) × (Led) × (Int) × (Nat) × (Tok) × (Tok) × (ExcName → Option Value) × (Str → Option Value) × (Str → Option Value) × (Nat) × (Nat) × (Option (List Code)) × (Str) × (Scope) × (Addr) × (Value) × (List (Str × Addr)) × (List Env) × (Around) × (Heap) × (Heap) × (Addr) × (Str → Option Value) × (Shared) × (Value → Shared → Prop) × (Value → Shared → Prop) => ¬ Zfo_fails.G (x.1) (x.2.1) (x.2.2.1) (x.2.2.2.1) (x.2.2.2.2.1) (x.2.2.2.2.2.1) (x.2.2.2.2.2.2.1) (x.2.2.2.2.2.2.2.1) (x.2.2.2.2.2.2.2.2.1) (x.2.2.2.2.2.2.2.2.2.1) (x.2.2.2.2.2.2.2.2.2.2.1) (x.2.2.2.2.2.2.2.2.2.2.2.1) (x.2.2.2.2.2.2.2.2.2.2.2.2.1) (x.2.2.2.2.2.2.2.2.2.2.2.2.2.1) (x.2.2.2.2.2.2.2.2.2.2.2.2.2.2.1) (x.2.2.2.2.2.2.2.2.2.2.2.2.2.2.2.1) (x.2.2.2.2.2.2.2.2.2.2.2.2.2.2.2.2.1) (x.2.2.2.2.2.2.2.2.2.2.2.2.2.2.2.2.2.1) (x.2.2.2.2.2.2.2.2.2.2.2.2.2.2.2.2.2.2.1) (x.2.2.2.2.2.2.2.2.2.2.2.2.2.2.2.2.2.2.2.1) (x.2.2.2.2.2.2.2.2.2.2.2.2.2.2.2.2.2.2.2.2.1) (x.2.2.2.2.2.2.2.2.2.2.2.2.2.2.2.2.2.2.2.2.2.1) (x.2.2.2.2.2.2.2.2.2.2.2.2.2.2.2.2.2.2.2.2.2.2.1) (x.2.2.2.2.2.2.2.2.2.2.2.2.2.2.2.2.2.2.2.2.2.2.2.1) (x.2.2.2.2.2.2.2.2.2.2.2.2.2.2.2.2.2.2.2.2.2.2.2.2.1) (x.2.2.2.2.2.2.2.2.2.2.2.2.2.2.2.2.2.2.2.2.2.2.2.2.2)) ⟨(w, news, n, i, tn, ti, mean, mg, mb, dp, un, gd, cn, cs, a, ccd, cl', outer, A₀, base, h₀, L, m, s, Q, E), hn⟩ Zfo_fails.main) hi hn0 hn1 h0
end Mine
end
section
theorem Mine.offT10 : True := by w_top off; trivial
namespace Mine
noncomputable def wayIx (x : Str) : Int := if x = Str.ofString "free" then 0 else if x = Str.ofString "used" then 1 else 2
noncomputable def rowParts (w0 w1 w2 : Nat) (e : Ent) : List (Array UInt8) := (if 0 < w0 then [octs (wayIx e.way) w0] else []) ++ [octs e.one w1, octs e.two w2]
noncomputable def rowsP (w0 w1 w2 : Nat) (es : List Ent) : List (Array UInt8) := es.flatMap (rowParts w0 w1 w2)
noncomputable def rowsB (w0 w1 w2 : Nat) (es : List Ent) : List UInt8 := ((rowsP w0 w1 w2 es).map Array.toList).flatten
noncomputable def IsWay (x : Str) : Prop := x = Str.ofString "free" ∨ x = Str.ofString "used" ∨ x = Str.ofString "packed"
theorem octs_size (n : Int) (i : Nat) : (octs n i).size = i := by unfold octs; rw [byteArr_size, List.length_reverse, low_length]
theorem rst_small {n : Int} (h0 : 0 ≤ n) (h1 : n < 256) : ∀ {i : Nat}, 0 < i → rst n i = 0 := by
  intro i hi
  have h2 : ∀ j, rst n (j + 1) = 0 := by
    intro j
    induction j with
    | zero => show n.fdiv 256 = 0; rw [Int.fdiv_eq_ediv_of_nonneg _ (by decide)]; omega
    | succ j ih => show (rst n (j + 1)).fdiv 256 = 0; rw [ih]; rfl
  obtain ⟨j, rfl⟩ : ∃ j, i = j + 1 := ⟨i - 1, by omega⟩
  exact h2 j
theorem rowsP_snoc {w0 w1 w2 : Nat} {es : List Ent} {i : Nat} {e : Ent} (he : es[i]? = some e) : rowsP w0 w1 w2 (es.take (i + 1)) = rowsP w0 w1 w2 (es.take i) ++ rowParts w0 w1 w2 e := by
  unfold rowsP
  rw [List.take_add_one, he, List.flatMap_append]
  simp
theorem wayIx_free : wayIx (Str.ofString "free") = 0 := by unfold wayIx; rw [if_pos rfl]
theorem wayIx_used : wayIx (Str.ofString "used") = 1 := by unfold wayIx; rw [if_neg (by decide), if_pos rfl]
theorem wayIx_packed : wayIx (Str.ofString "packed") = 2 := by unfold wayIx; rw [if_neg (by decide), if_neg (by decide)]
theorem way_or {x : Str} (h : IsWay x) : x = Str.ofString "free" ∧ wayIx x = 0 ∨ x = Str.ofString "used" ∧ wayIx x = 1 ∨ x = Str.ofString "packed" ∧ wayIx x = 2 := by
  rcases h with rfl | rfl | rfl
  · exact .inl ⟨rfl, wayIx_free⟩
  · exact .inr (.inl ⟨rfl, wayIx_used⟩)
  · exact .inr (.inr ⟨rfl, wayIx_packed⟩)
theorem way_rng {x : Str} (h : IsWay x) : 0 ≤ wayIx x ∧ wayIx x < 256 := by
  rcases way_or h with ⟨-, e⟩ | ⟨-, e⟩ | ⟨-, e⟩ <;> rw [e] <;> decide
theorem rowParts_len (w0 w1 w2 : Nat) (e : Ent) : (rowParts w0 w1 w2 e).length ≤ 3 := by unfold rowParts; split <;> simp
theorem rowParts_len2 (w0 w1 w2 : Nat) (e : Ent) : 2 ≤ (rowParts w0 w1 w2 e).length := by unfold rowParts; split <;> simp
theorem rowParts_bytes (w0 w1 w2 : Nat) (e : Ent) : (((rowParts w0 w1 w2 e).map Array.toList).flatten).length = w0 + w1 + w2 := by
  unfold rowParts
  split
  · simp [octs_size]; omega
  · simp [octs_size]; omega
theorem rowsP_len (w0 w1 w2 : Nat) : ∀ es : List Ent, (rowsP w0 w1 w2 es).length ≤ 3 * es.length
  | [] => Nat.le_refl _
  | e :: es => by
    have h1 := rowsP_len w0 w1 w2 es
    have h2 := rowParts_len w0 w1 w2 e
    unfold rowsP at h1 ⊢
    rw [List.flatMap_cons, List.length_append, List.length_cons]
    omega
theorem rowsP_ne (w0 w1 w2 : Nat) : ∀ es : List Ent, (rowsP w0 w1 w2 es).length ≠ 1
  | [] => by simp [rowsP]
  | e :: es => by
    have h2 := rowParts_len2 w0 w1 w2 e
    unfold rowsP
    rw [List.flatMap_cons, List.length_append]
    omega
theorem rowsB_cons (w0 w1 w2 : Nat) (e : Ent) (es : List Ent) : rowsB w0 w1 w2 (e :: es) = ((rowParts w0 w1 w2 e).map Array.toList).flatten ++ rowsB w0 w1 w2 es := by
  unfold rowsB rowsP
  rw [List.flatMap_cons, List.map_append, List.flatten_append]
theorem rowsB_length (w0 w1 w2 : Nat) : ∀ es : List Ent, (rowsB w0 w1 w2 es).length = es.length * (w0 + w1 + w2)
  | [] => by simp [rowsB, rowsP]
  | e :: es => by
    rw [rowsB_cons, List.length_append, rowParts_bytes, rowsB_length w0 w1 w2 es, List.length_cons, Nat.succ_mul]
    omega
theorem are_more {w0 w1 w2 : Nat} {es : List Ent} {i : Nat} {e : Ent} {its : List Value} (he : es[i]? = some e) (hB : BytesAre its (rowsP w0 w1 w2 (es.take i))) (hp : 0 < w0) {k : Int} (hk : wayIx e.way = k) (a b c : Tok) :
    BytesAre (its ++ [.bytes (octs k w0) a] ++ [.bytes (octs e.one w1) b] ++ [.bytes (octs e.two w2) c]) (rowsP w0 w1 w2 (es.take (i + 1))) := by
  have h := ((hB.snoc (octs k w0) a).snoc (octs e.one w1) b).snoc (octs e.two w2) c
  rw [rowsP_snoc he]
  unfold rowParts
  rw [if_pos hp, hk]
  simpa using h
theorem are_less {w0 w1 w2 : Nat} {es : List Ent} {i : Nat} {e : Ent} {its : List Value} (he : es[i]? = some e) (hB : BytesAre its (rowsP w0 w1 w2 (es.take i))) (hp : ¬ 0 < w0) (b c : Tok) :
    BytesAre (its ++ [.bytes (octs e.one w1) b] ++ [.bytes (octs e.two w2) c]) (rowsP w0 w1 w2 (es.take (i + 1))) := by
  have h := (hB.snoc (octs e.one w1) b).snoc (octs e.two w2) c
  rw [rowsP_snoc he]
  unfold rowParts
  rw [if_neg hp]
  simpa using h
noncomputable def Zrw_does.G (w : World) (news : Led) (D : Addr) (oD : Obj) (kvs : List (Int × Value)) (es : List Ent) (wd : Addr) (t0 : Tok) (t1 : Tok) (t2 : Tok) (ep : Nat) (mean : ExcName → Option Value) (mg : Str → Option Value) (mb : Str → Option Value) (dp : Nat) (un : Nat) (gd : Option (List Code)) (cn : Str) (cs : Scope) (a : Addr) (ccd : Value) (cl' : List (Str × Addr)) (outer : List Env) (A₀ : Around) (base : Heap) (h₀ : Heap) (L : Addr) (m : Str → Option Value) (s : Shared) (Q : Value → Shared → Prop) (E : Value → Shared → Prop) : Prop :=
  ∀ (w0 : Nat), ∀ (w1 : Nat), ∀ (w2 : Nat), ∀ (hT : EntTab w news D oD kvs es), ∀ (hn : kvs.length ≤ 10), ∀ (hs : (kvs.map (·.1)).Pairwise (· < ·)), ∀ (hw0 : w0 ≤ 10), ∀ (hw1 : w1 ≤ 10), ∀ (hw2 : w2 ≤ 10), ∀ (hW : (wd, W.listOf #[.int (w0 : Int) t0, .int (w1 : Int) t1, .int (w2 : Int) t2] ep) ∈ news), ∀ (hok : ∀ e ∈ es, IsWay e.way ∧ (w0 = 0 → e.way = Str.ofString "used") ∧ rst e.one w1 = 0 ∧ rst e.two w2 = 0), DoesB w 139 20 800 news [.ref D, .ref wd] (fun v news' => (∃ t, v = .bytes (rowsB w0 w1 w2 es).toArray t) ∧ news' = news) mean mg mb dp un gd cn cs a ccd cl' outer A₀ base h₀ L m s Q E
noncomputable def Zrw_does.c : (World) × (Led) × (Addr) × (Obj) × (List (Int × Value)) × (List Ent) × (Addr) × (Tok) × (Tok) × (Tok) × (Nat) × (ExcName → Option Value) × (Str → Option Value) × (Str → Option Value) × (Nat) × (Nat) × (Option (List Code)) × (Str) × (Scope) × (Addr) × (Value) × (List (Str × Addr)) × (List Env) × (Around) × (Heap) × (Heap) × (Addr) × (Str → Option Value) × (Shared) × (Value → Shared → Prop) × (Value → Shared → Prop) :=
  @Classical.epsilon _ ⟨((aWorld 0 : World), (default : Led), (default : Addr), (default : Obj), (default : List (Int × Value)), (default : List Ent), (default : Addr), (default : Tok), (default : Tok), (default : Tok), (default : Nat), (fun _ => none : ExcName → Option Value), (fun _ => none : Str → Option Value), (fun _ => none : Str → Option Value), (default : Nat), (default : Nat), (default : Option (List Code)), (default : Str), (default : Scope), (default : Addr), (default : Value), (default : List (Str × Addr)), (default : List Env), (callerA : Around), (default : Heap), (default : Heap), (default : Addr), (fun _ => none : Str → Option Value), ({} : Shared), (fun _ _ => True : Value → Shared → Prop), (fun _ _ => True : Value → Shared → Prop))⟩ fun x => ¬ Zrw_does.G (x.1) (x.2.1) (x.2.2.1) (x.2.2.2.1) (x.2.2.2.2.1) (x.2.2.2.2.2.1) (x.2.2.2.2.2.2.1) (x.2.2.2.2.2.2.2.1) (x.2.2.2.2.2.2.2.2.1) (x.2.2.2.2.2.2.2.2.2.1) (x.2.2.2.2.2.2.2.2.2.2.1) (x.2.2.2.2.2.2.2.2.2.2.2.1) (x.2.2.2.2.2.2.2.2.2.2.2.2.1) (x.2.2.2.2.2.2.2.2.2.2.2.2.2.1) (x.2.2.2.2.2.2.2.2.2.2.2.2.2.2.1) (x.2.2.2.2.2.2.2.2.2.2.2.2.2.2.2.1) (x.2.2.2.2.2.2.2.2.2.2.2.2.2.2.2.2.1) (x.2.2.2.2.2.2.2.2.2.2.2.2.2.2.2.2.2.1) (x.2.2.2.2.2.2.2.2.2.2.2.2.2.2.2.2.2.2.1) (x.2.2.2.2.2.2.2.2.2.2.2.2.2.2.2.2.2.2.2.1) (x.2.2.2.2.2.2.2.2.2.2.2.2.2.2.2.2.2.2.2.2.1) (x.2.2.2.2.2.2.2.2.2.2.2.2.2.2.2.2.2.2.2.2.2.1) (x.2.2.2.2.2.2.2.2.2.2.2.2.2.2.2.2.2.2.2.2.2.2.1) (x.2.2.2.2.2.2.2.2.2.2.2.2.2.2.2.2.2.2.2.2.2.2.2.1) (x.2.2.2.2.2.2.2.2.2.2.2.2.2.2.2.2.2.2.2.2.2.2.2.2.1) (x.2.2.2.2.2.2.2.2.2.2.2.2.2.2.2.2.2.2.2.2.2.2.2.2.2.1) (x.2.2.2.2.2.2.2.2.2.2.2.2.2.2.2.2.2.2.2.2.2.2.2.2.2.2.1) (x.2.2.2.2.2.2.2.2.2.2.2.2.2.2.2.2.2.2.2.2.2.2.2.2.2.2.2.1) (x.2.2.2.2.2.2.2.2.2.2.2.2.2.2.2.2.2.2.2.2.2.2.2.2.2.2.2.2.1) (x.2.2.2.2.2.2.2.2.2.2.2.2.2.2.2.2.2.2.2.2.2.2.2.2.2.2.2.2.2.1) (x.2.2.2.2.2.2.2.2.2.2.2.2.2.2.2.2.2.2.2.2.2.2.2.2.2.2.2.2.2.2)
noncomputable def Zrw_does.V.w : World := Zrw_does.c.1
noncomputable def Zrw_does.V.news : Led := Zrw_does.c.2.1
noncomputable def Zrw_does.V.D : Addr := Zrw_does.c.2.2.1
noncomputable def Zrw_does.V.oD : Obj := Zrw_does.c.2.2.2.1
noncomputable def Zrw_does.V.kvs : List (Int × Value) := Zrw_does.c.2.2.2.2.1
noncomputable def Zrw_does.V.es : List Ent := Zrw_does.c.2.2.2.2.2.1
noncomputable def Zrw_does.V.wd : Addr := Zrw_does.c.2.2.2.2.2.2.1
noncomputable def Zrw_does.V.t0 : Tok := Zrw_does.c.2.2.2.2.2.2.2.1
noncomputable def Zrw_does.V.t1 : Tok := Zrw_does.c.2.2.2.2.2.2.2.2.1
noncomputable def Zrw_does.V.t2 : Tok := Zrw_does.c.2.2.2.2.2.2.2.2.2.1
noncomputable def Zrw_does.V.ep : Nat := Zrw_does.c.2.2.2.2.2.2.2.2.2.2.1
noncomputable def Zrw_does.V.mean : ExcName → Option Value := Zrw_does.c.2.2.2.2.2.2.2.2.2.2.2.1
noncomputable def Zrw_does.V.mg : Str → Option Value := Zrw_does.c.2.2.2.2.2.2.2.2.2.2.2.2.1
noncomputable def Zrw_does.V.mb : Str → Option Value := Zrw_does.c.2.2.2.2.2.2.2.2.2.2.2.2.2.1
noncomputable def Zrw_does.V.dp : Nat := Zrw_does.c.2.2.2.2.2.2.2.2.2.2.2.2.2.2.1
noncomputable def Zrw_does.V.un : Nat := Zrw_does.c.2.2.2.2.2.2.2.2.2.2.2.2.2.2.2.1
noncomputable def Zrw_does.V.gd : Option (List Code) := Zrw_does.c.2.2.2.2.2.2.2.2.2.2.2.2.2.2.2.2.1
noncomputable def Zrw_does.V.cn : Str := Zrw_does.c.2.2.2.2.2.2.2.2.2.2.2.2.2.2.2.2.2.1
noncomputable def Zrw_does.V.cs : Scope := Zrw_does.c.2.2.2.2.2.2.2.2.2.2.2.2.2.2.2.2.2.2.1
noncomputable def Zrw_does.V.a : Addr := Zrw_does.c.2.2.2.2.2.2.2.2.2.2.2.2.2.2.2.2.2.2.2.1
noncomputable def Zrw_does.V.ccd : Value := Zrw_does.c.2.2.2.2.2.2.2.2.2.2.2.2.2.2.2.2.2.2.2.2.1
noncomputable def Zrw_does.V.cl' : List (Str × Addr) := Zrw_does.c.2.2.2.2.2.2.2.2.2.2.2.2.2.2.2.2.2.2.2.2.2.1
noncomputable def Zrw_does.V.outer : List Env := Zrw_does.c.2.2.2.2.2.2.2.2.2.2.2.2.2.2.2.2.2.2.2.2.2.2.1
noncomputable def Zrw_does.V.A₀ : Around := Zrw_does.c.2.2.2.2.2.2.2.2.2.2.2.2.2.2.2.2.2.2.2.2.2.2.2.1
noncomputable def Zrw_does.V.base : Heap := Zrw_does.c.2.2.2.2.2.2.2.2.2.2.2.2.2.2.2.2.2.2.2.2.2.2.2.2.1
noncomputable def Zrw_does.V.h₀ : Heap := Zrw_does.c.2.2.2.2.2.2.2.2.2.2.2.2.2.2.2.2.2.2.2.2.2.2.2.2.2.1
noncomputable def Zrw_does.V.L : Addr := Zrw_does.c.2.2.2.2.2.2.2.2.2.2.2.2.2.2.2.2.2.2.2.2.2.2.2.2.2.2.1
noncomputable def Zrw_does.V.m : Str → Option Value := Zrw_does.c.2.2.2.2.2.2.2.2.2.2.2.2.2.2.2.2.2.2.2.2.2.2.2.2.2.2.2.1
noncomputable def Zrw_does.V.s : Shared := Zrw_does.c.2.2.2.2.2.2.2.2.2.2.2.2.2.2.2.2.2.2.2.2.2.2.2.2.2.2.2.2.1
noncomputable def Zrw_does.V.Q : Value → Shared → Prop := Zrw_does.c.2.2.2.2.2.2.2.2.2.2.2.2.2.2.2.2.2.2.2.2.2.2.2.2.2.2.2.2.2.1
noncomputable def Zrw_does.V.E : Value → Shared → Prop := Zrw_does.c.2.2.2.2.2.2.2.2.2.2.2.2.2.2.2.2.2.2.2.2.2.2.2.2.2.2.2.2.2.2
section
open Zrw_does.V
set_option maxHeartbeats 8000000 in
theorem Zrw_does.main : Zrw_does.G Zrw_does.V.w Zrw_does.V.news Zrw_does.V.D Zrw_does.V.oD Zrw_does.V.kvs Zrw_does.V.es Zrw_does.V.wd Zrw_does.V.t0 Zrw_does.V.t1 Zrw_does.V.t2 Zrw_does.V.ep Zrw_does.V.mean Zrw_does.V.mg Zrw_does.V.mb Zrw_does.V.dp Zrw_does.V.un Zrw_does.V.gd Zrw_does.V.cn Zrw_does.V.cs Zrw_does.V.a Zrw_does.V.ccd Zrw_does.V.cl' Zrw_does.V.outer Zrw_does.V.A₀ Zrw_does.V.base Zrw_does.V.h₀ Zrw_does.V.L Zrw_does.V.m Zrw_does.V.s Zrw_does.V.Q Zrw_does.V.E := by
  unfold Zrw_does.G DoesB
  k_fill
  intro w0 w1 w2 hT hn hs hw0 hw1 hw2 hW hok B F X N T hk hdp hun hret
  have hmem := hT.mem
  have hdict := hT.dict
  have hlo := hT.lo
  have hn64 : kvs.length < 64 := by omega
  refine wpAny_call ?_
  k_dflt cell_enter
  ((repeat' ( (fail_if_success (with_reducible show wpAny _ _ (pyIter (Value.ref _)) _ _ _)); (fail_if_success (with_reducible show wpAny _ _ (exec (Stmt.While _ _ _ _) _) _ _ _)); (first | (k_unfold; (try dsimp only)) | (k_end; wrow_close) | ((with_reducible show wpAny _ _ (call (Value.builtin "tuple.index") _ _) _ _ _); (k_here; k_dflt (refine' tidx_K ?my1 ?my2 ?my3 ?my4 ?_; (case my1 => k_asm); (case my2 => k_asm); (case my3 => k_is); (case my4 => first | assumption | exact .inl ⟨rfl, rfl⟩ | exact .inr (.inl ⟨rfl, rfl⟩) | exact .inr (.inr ⟨rfl, rfl⟩))); intro t9 tk9)) | (k_here; (with_reducible show wpAny _ _ (getMethod (Value.ref 90) _ _) _ _ _); k_dflt (refine' tidx_method ?my1 ?my2 ?my3 ?_; (case my1 => k_asm); (case my2 => k_asm); (case my3 => k_is))) | (k_here; (with_reducible show wpAny _ _ (call (Value.ref 104) [Value.int _ _, Value.int _ _]) _ _ _); k_dflt (refine' does_pure (fo_does _ _ _ _ _ _ ?z ?z2) ?k1 ?k2 ?k3 ?k4 ?k5 ?k6 ?k7 ?k8 ?_; (case z => assumption); (case z2 => assumption)); (walk_at "MY sides"); (intro v9 h9 tk9 P9 F9 N9; obtain ⟨t9, e9⟩ := P9; subst e9); (try k_fold)) | ((with_reducible show wpAny _ _ (getMethod (Value.bytes _ _) _ _) _ _ _); (k_here; (refine join_method ?_))) | (k_here; (with_reducible show wpAny _ _ (subscriptTail _ _ (Value.ref _) (Value.int (Ent.key _) _)) _ _ _); k_dflt (refine' kda_item (knd := PySem.intKind _ _) ?my1 ?my2 ?my3 (intKind_is _ _ _ _) ?my4 ?_ ?my5 ?my6; (case my1 => k_asm); (case my2 => k_mem); (case my3 => assumption); (case my4 => assumption); (case my5 => with_unfolding_all rfl); (case my6 => intro _; with_unfolding_all rfl))) | (k_here; (with_reducible show wpAny _ _ (subscriptTail _ _ (Value.ref _) (Value.int _ _)) _ _ _); k_dflt (refine' item_lit ?my1 ?my2 ?my4 ?my5 ?my6 ?_ ?my3; (case my1 => k_asm); (case my2 => k_mem); (case my4 => decide); (case my5 => decide); (case my6 => rfl); (case my3 => with_unfolding_all rfl))) | ((with_reducible show wpAny _ _ (call (Value.builtin "sorted") _ _) _ _ _); (k_here; (with_reducible show wpAny _ _ (call (Value.builtin "sorted") [Value.ref _]) _ _ _); k_dflt (refine' sorted_dict ?my1 ?my2 ?my3 ?my4 ?my5 ?my6 ?my7 ?my8 ?_; (case my1 => exact rfl); (case my2 => k_asm); (case my3 => k_asm); (case my4 => k_mem); (case my5 => assumption); (case my6 => assumption); (case my7 => assumption); (case my8 => assumption)); intro D' vs' c' h' tk' F' N' l1 hI')) | ((with_reducible show wpAny _ _ (call (Value.builtin "bytes.join") _ _) _ _ _); (k_here; k_dflt (refine' join_K ?my1 ?my2 ?my3 ?my4 ?my5 ?my6 ?_; (case my1 => k_asm); (case my2 => k_asm); (case my3 => k_mem); (case my4 => assumption); (case my5 => assumption); (case my6 => assumption)); intro t9 tk9)) | walk1 | (dsimp only; walk1) | (leave1; walk_say "STEP leave1"; try dsimp only) | fail "no step"))); all_goals (try k_fold))
  (rename Fr _ _ _ _ => lF')
  (rename News _ _ _ _ => lN')
  obtain ⟨S, vsS, cS, hS, hvS, hcS, -⟩ := led_lst lN'
  subst hS hvS hcS
  obtain ⟨R, hR, -⟩ := led_2 lN'
  subst hR
  (rename IntsAre _ _ => hI)
  (rename ∀ (q : Addr × Obj), q ∈ (R, _) :: news → q.1 < S => l1)
  have hRS : @LT.lt Nat _ R S := l1 _ (.head _)
  have hSR : @Ne Nat S R := Nat.ne_of_gt hRS
  have hRn : ∀ p ∈ news, @Ne Nat p.1 R := fun p hp => Nat.ne_of_lt ((by assumption : ∀ p ∈ news, p.1 < R) p hp)
  have lN2 : News _ _ _ ((R, W.listOf #[] 0) :: (S, W.listOf _ _) :: news) := news_sub lN' (by walk_at "MY sub")
  refine iter_list (fun m₀ i m₁ l => ∃ its ep, l = (R, W.listOf (List.toArray its) ep) :: (S, W.listOf vsS.toArray cS) :: news ∧ BytesAre its (rowsP w0 w1 w2 (es.take i)) ∧ Like (Str.ofString "number") m₀ m₁ [(Str.ofString "entry", m₁ (Str.ofString "entry"))])
    rfl lF' lN2 (.tail _ (.head _)) ⟨[], 0, rfl, .nil, Like.start ⟨rfl, trivial⟩⟩ ?_ ?_
  · rintro i v m₁ _ I oI h tk QT hQT hx ⟨its, ep, rfl, hB, hL⟩ hmem2 ho F₁ N₁
    have F₂ := hL.turn F₁
    simp only [upd] at F₂
    have hil : i < kvs.length := by
      have := hI.length
      rw [List.length_map] at this
      rw [← this]
      rcases Nat.lt_or_ge i vsS.length with h | h
      · exact h
      · simp [List.getElem?_eq_none h] at hx
    obtain ⟨⟨k, y⟩, hky⟩ : ∃ p, kvs[i]? = some p := ⟨_, List.getElem?_eq_getElem hil⟩
    obtain ⟨e, x, he, rfl, rfl, d, a1, a2, a3, a4, a5, a6, m1, m2⟩ := hT.ents.get hky
    have hat := hT.at hky
    obtain ⟨tv, hv⟩ := hI.get i e.key (by rw [List.getElem?_map, hky]; rfl)
    have hv2 : v = .int e.key tv := by
      have hx' := hx
      rw [List.getElem?_toArray, hv] at hx'
      exact (Option.some.inj hx').symm
    subst hv2
    obtain ⟨hway, hz, h1, h2⟩ := hok e (List.mem_of_getElem? he)
    have hz9 : its.length ≤ 97 := by
      have h1 := rowsP_len w0 w1 w2 (es.take i)
      rw [← hB.length, List.length_take] at h1
      omega
    have hRI := ho _ (.head _)
    have hSI := ho _ (.tail _ (.head _))
    dsimp only at hRI hSI
    have hnI : ∀ p ∈ news, @Ne Nat p.1 I := fun p hp => ho p (.tail _ (.tail _ hp))
    have ho2 : ∀ (x : Obj), ∀ p ∈ (R, x) :: (S, W.listOf vsS.toArray cS) :: news, @Ne Nat p.1 I := fun x => List.forall_mem_cons.mpr ⟨hRI, List.forall_mem_cons.mpr ⟨hSI, hnI⟩⟩
    unfold entD at m2
    clear F₁ lF' lN' lN2
    try k_fold
    by_cases hp : 0 < w0
    · have hp2 : (0 : Int) < (w0 : Int) := by omega
      have hwo := way_or hway
      have hrw : rst (wayIx e.way) w0 = 0 := rst_small (way_rng hway).1 (way_rng hway).2 hp
      ((repeat' ( (fail_if_success (with_reducible show wpAny _ _ (pyIter (Value.ref _)) _ _ _)); (fail_if_success (with_reducible show wpAny _ _ (exec (Stmt.While _ _ _ _) _) _ _ _)); (first | (k_unfold; (try dsimp only)) | (k_end; wrow_close) | ((with_reducible show wpAny _ _ (call (Value.builtin "tuple.index") _ _) _ _ _); (k_here; k_dflt (refine' tidx_K ?my1 ?my2 ?my3 ?my4 ?_; (case my1 => k_asm); (case my2 => k_asm); (case my3 => k_is); (case my4 => first | assumption | exact .inl ⟨rfl, rfl⟩ | exact .inr (.inl ⟨rfl, rfl⟩) | exact .inr (.inr ⟨rfl, rfl⟩))); intro t9 tk9)) | (k_here; (with_reducible show wpAny _ _ (getMethod (Value.ref 90) _ _) _ _ _); k_dflt (refine' tidx_method ?my1 ?my2 ?my3 ?_; (case my1 => k_asm); (case my2 => k_asm); (case my3 => k_is))) | (k_here; (with_reducible show wpAny _ _ (call (Value.ref 104) [Value.int _ _, Value.int _ _]) _ _ _); k_dflt (refine' does_pure (fo_does _ _ _ _ _ _ ?z ?z2) ?k1 ?k2 ?k3 ?k4 ?k5 ?k6 ?k7 ?k8 ?_; (case z => assumption); (case z2 => assumption)); (walk_at "MY sides"); (intro v9 h9 tk9 P9 F9 N9; obtain ⟨t9, e9⟩ := P9; subst e9); (try k_fold)) | ((with_reducible show wpAny _ _ (getMethod (Value.bytes _ _) _ _) _ _ _); (k_here; (refine join_method ?_))) | (k_here; (with_reducible show wpAny _ _ (subscriptTail _ _ (Value.ref _) (Value.int (Ent.key _) _)) _ _ _); k_dflt (refine' kda_item (knd := PySem.intKind _ _) ?my1 ?my2 ?my3 (intKind_is _ _ _ _) ?my4 ?_ ?my5 ?my6; (case my1 => k_asm); (case my2 => k_mem); (case my3 => assumption); (case my4 => assumption); (case my5 => with_unfolding_all rfl); (case my6 => intro _; with_unfolding_all rfl))) | (k_here; (with_reducible show wpAny _ _ (subscriptTail _ _ (Value.ref _) (Value.int _ _)) _ _ _); k_dflt (refine' item_lit ?my1 ?my2 ?my4 ?my5 ?my6 ?_ ?my3; (case my1 => k_asm); (case my2 => k_mem); (case my4 => decide); (case my5 => decide); (case my6 => rfl); (case my3 => with_unfolding_all rfl))) | ((with_reducible show wpAny _ _ (call (Value.builtin "sorted") _ _) _ _ _); (k_here; (with_reducible show wpAny _ _ (call (Value.builtin "sorted") [Value.ref _]) _ _ _); k_dflt (refine' sorted_dict ?my1 ?my2 ?my3 ?my4 ?my5 ?my6 ?my7 ?my8 ?_; (case my1 => exact rfl); (case my2 => k_asm); (case my3 => k_asm); (case my4 => k_mem); (case my5 => assumption); (case my6 => assumption); (case my7 => assumption); (case my8 => assumption)); intro D' vs' c' h' tk' F' N' l1 hI')) | ((with_reducible show wpAny _ _ (call (Value.builtin "bytes.join") _ _) _ _ _); (k_here; k_dflt (refine' join_K ?my1 ?my2 ?my3 ?my4 ?my5 ?my6 ?_; (case my1 => k_asm); (case my2 => k_asm); (case my3 => k_mem); (case my4 => assumption); (case my5 => assumption); (case my6 => assumption)); intro t9 tk9)) | walk1 | (dsimp only; walk1) | (leave1; walk_say "STEP leave1"; try dsimp only) | fail "no step"))); all_goals (try k_fold))
      (rename Fr _ _ _ _ => lF')
      (rename News _ _ _ _ => lN')
      rw [List.push_toArray, List.push_toArray, List.push_toArray] at lN'
      exact hQT _ _ <| TurnEnd.next lF' lN' (fun p hp => by rw [List.mem_singleton.mp hp]; exact .tail _ (.head _)) (ho2 _) ⟨_, _, rfl, are_more he hB hp rfl _ _ _, ⟨rfl, trivial⟩, fun z hx hz => by simp only [Off] at hz; simp [hx, hz]⟩
    · have hp0 : w0 = 0 := by omega
      have hw := hz hp0
      rw [hw] at m2
      subst hp0
      ((repeat' ( (fail_if_success (with_reducible show wpAny _ _ (pyIter (Value.ref _)) _ _ _)); (fail_if_success (with_reducible show wpAny _ _ (exec (Stmt.While _ _ _ _) _) _ _ _)); (first | (k_unfold; (try dsimp only)) | (k_end; wrow_close) | ((with_reducible show wpAny _ _ (call (Value.builtin "tuple.index") _ _) _ _ _); (k_here; k_dflt (refine' tidx_K ?my1 ?my2 ?my3 ?my4 ?_; (case my1 => k_asm); (case my2 => k_asm); (case my3 => k_is); (case my4 => first | assumption | exact .inl ⟨rfl, rfl⟩ | exact .inr (.inl ⟨rfl, rfl⟩) | exact .inr (.inr ⟨rfl, rfl⟩))); intro t9 tk9)) | (k_here; (with_reducible show wpAny _ _ (getMethod (Value.ref 90) _ _) _ _ _); k_dflt (refine' tidx_method ?my1 ?my2 ?my3 ?_; (case my1 => k_asm); (case my2 => k_asm); (case my3 => k_is))) | (k_here; (with_reducible show wpAny _ _ (call (Value.ref 104) [Value.int _ _, Value.int _ _]) _ _ _); k_dflt (refine' does_pure (fo_does _ _ _ _ _ _ ?z ?z2) ?k1 ?k2 ?k3 ?k4 ?k5 ?k6 ?k7 ?k8 ?_; (case z => assumption); (case z2 => assumption)); (walk_at "MY sides"); (intro v9 h9 tk9 P9 F9 N9; obtain ⟨t9, e9⟩ := P9; subst e9); (try k_fold)) | ((with_reducible show wpAny _ _ (getMethod (Value.bytes _ _) _ _) _ _ _); (k_here; (refine join_method ?_))) | (k_here; (with_reducible show wpAny _ _ (subscriptTail _ _ (Value.ref _) (Value.int (Ent.key _) _)) _ _ _); k_dflt (refine' kda_item (knd := PySem.intKind _ _) ?my1 ?my2 ?my3 (intKind_is _ _ _ _) ?my4 ?_ ?my5 ?my6; (case my1 => k_asm); (case my2 => k_mem); (case my3 => assumption); (case my4 => assumption); (case my5 => with_unfolding_all rfl); (case my6 => intro _; with_unfolding_all rfl))) | (k_here; (with_reducible show wpAny _ _ (subscriptTail _ _ (Value.ref _) (Value.int _ _)) _ _ _); k_dflt (refine' item_lit ?my1 ?my2 ?my4 ?my5 ?my6 ?_ ?my3; (case my1 => k_asm); (case my2 => k_mem); (case my4 => decide); (case my5 => decide); (case my6 => rfl); (case my3 => with_unfolding_all rfl))) | ((with_reducible show wpAny _ _ (call (Value.builtin "sorted") _ _) _ _ _); (k_here; (with_reducible show wpAny _ _ (call (Value.builtin "sorted") [Value.ref _]) _ _ _); k_dflt (refine' sorted_dict ?my1 ?my2 ?my3 ?my4 ?my5 ?my6 ?my7 ?my8 ?_; (case my1 => exact rfl); (case my2 => k_asm); (case my3 => k_asm); (case my4 => k_mem); (case my5 => assumption); (case my6 => assumption); (case my7 => assumption); (case my8 => assumption)); intro D' vs' c' h' tk' F' N' l1 hI')) | ((with_reducible show wpAny _ _ (call (Value.builtin "bytes.join") _ _) _ _ _); (k_here; k_dflt (refine' join_K ?my1 ?my2 ?my3 ?my4 ?my5 ?my6 ?_; (case my1 => k_asm); (case my2 => k_asm); (case my3 => k_mem); (case my4 => assumption); (case my5 => assumption); (case my6 => assumption)); intro t9 tk9)) | walk1 | (dsimp only; walk1) | (leave1; walk_say "STEP leave1"; try dsimp only) | fail "no step"))); all_goals (try k_fold))
      (rename Fr _ _ _ _ => lF')
      (rename News _ _ _ _ => lN')
      rw [List.push_toArray, List.push_toArray] at lN'
      exact hQT _ _ <| TurnEnd.next lF' lN' (fun p hp => by rw [List.mem_singleton.mp hp]; exact .tail _ (.head _)) (ho2 _) ⟨_, _, rfl, are_less he hB hp _ _, ⟨rfl, trivial⟩, fun z hx hz => by simp only [Off] at hz; simp [hx, hz]⟩
  · rintro h tk m' _ ⟨its, ep, rfl, hB, hL⟩ hmem2 F₁ N₁
    have F₂ := hL.out F₁
    have hlen : vsS.toArray.size = es.length := by rw [List.size_toArray, hI.length, List.length_map, hT.ents.length]
    rw [hlen, List.take_length] at hB
    simp only [upd] at F₂
    have hj1 : its.length ≠ 1 := by rw [hB.length]; exact rowsP_ne w0 w1 w2 es
    have hj2 : (((rowsP w0 w1 w2 es).map Array.toList).flatten).length ≤ 10000 := by
      have h1 := rowsB_length w0 w1 w2 es
      have h2 : es.length ≤ 10 := by rw [← hT.ents.length]; exact hn
      have h3 : es.length * (w0 + w1 + w2) ≤ 10 * 30 := Nat.mul_le_mul h2 (by omega)
      unfold rowsB at h1
      omega
    clear F₁ lF' lN' lN2
    try k_fold
    ((repeat' ( (fail_if_success (with_reducible show wpAny _ _ (pyIter (Value.ref _)) _ _ _)); (fail_if_success (with_reducible show wpAny _ _ (exec (Stmt.While _ _ _ _) _) _ _ _)); (first | (k_unfold; (try dsimp only)) | (k_end; wrow_close) | ((with_reducible show wpAny _ _ (call (Value.builtin "tuple.index") _ _) _ _ _); (k_here; k_dflt (refine' tidx_K ?my1 ?my2 ?my3 ?my4 ?_; (case my1 => k_asm); (case my2 => k_asm); (case my3 => k_is); (case my4 => first | assumption | exact .inl ⟨rfl, rfl⟩ | exact .inr (.inl ⟨rfl, rfl⟩) | exact .inr (.inr ⟨rfl, rfl⟩))); intro t9 tk9)) | (k_here; (with_reducible show wpAny _ _ (getMethod (Value.ref 90) _ _) _ _ _); k_dflt (refine' tidx_method ?my1 ?my2 ?my3 ?_; (case my1 => k_asm); (case my2 => k_asm); (case my3 => k_is))) | (k_here; (with_reducible show wpAny _ _ (call (Value.ref 104) [Value.int _ _, Value.int _ _]) _ _ _); k_dflt (refine' does_pure (fo_does _ _ _ _ _ _ ?z ?z2) ?k1 ?k2 ?k3 ?k4 ?k5 ?k6 ?k7 ?k8 ?_; (case z => assumption); (case z2 => assumption)); (walk_at "MY sides"); (intro v9 h9 tk9 P9 F9 N9; obtain ⟨t9, e9⟩ := P9; subst e9); (try k_fold)) | ((with_reducible show wpAny _ _ (getMethod (Value.bytes _ _) _ _) _ _ _); (k_here; (refine join_method ?_))) | (k_here; (with_reducible show wpAny _ _ (subscriptTail _ _ (Value.ref _) (Value.int (Ent.key _) _)) _ _ _); k_dflt (refine' kda_item (knd := PySem.intKind _ _) ?my1 ?my2 ?my3 (intKind_is _ _ _ _) ?my4 ?_ ?my5 ?my6; (case my1 => k_asm); (case my2 => k_mem); (case my3 => assumption); (case my4 => assumption); (case my5 => with_unfolding_all rfl); (case my6 => intro _; with_unfolding_all rfl))) | (k_here; (with_reducible show wpAny _ _ (subscriptTail _ _ (Value.ref _) (Value.int _ _)) _ _ _); k_dflt (refine' item_lit ?my1 ?my2 ?my4 ?my5 ?my6 ?_ ?my3; (case my1 => k_asm); (case my2 => k_mem); (case my4 => decide); (case my5 => decide); (case my6 => rfl); (case my3 => with_unfolding_all rfl))) | ((with_reducible show wpAny _ _ (call (Value.builtin "sorted") _ _) _ _ _); (k_here; (with_reducible show wpAny _ _ (call (Value.builtin "sorted") [Value.ref _]) _ _ _); k_dflt (refine' sorted_dict ?my1 ?my2 ?my3 ?my4 ?my5 ?my6 ?my7 ?my8 ?_; (case my1 => exact rfl); (case my2 => k_asm); (case my3 => k_asm); (case my4 => k_mem); (case my5 => assumption); (case my6 => assumption); (case my7 => assumption); (case my8 => assumption)); intro D' vs' c' h' tk' F' N' l1 hI')) | ((with_reducible show wpAny _ _ (call (Value.builtin "bytes.join") _ _) _ _ _); (k_here; k_dflt (refine' join_K ?my1 ?my2 ?my3 ?my4 ?my5 ?my6 ?_; (case my1 => k_asm); (case my2 => k_asm); (case my3 => k_mem); (case my4 => assumption); (case my5 => assumption); (case my6 => assumption)); intro t9 tk9)) | walk1 | (dsimp only; walk1) | (leave1; walk_say "STEP leave1"; try dsimp only) | fail "no step"))); all_goals (try k_fold))
    exact hret _ _ _ _ ⟨⟨_, rfl⟩, rfl⟩ (by k_asm) (news_sub (by k_asm) fun p hp => .tail _ (.tail _ hp))
end
theorem rw_does (w : World) (news : Led) (D : Addr) (oD : Obj) (kvs : List (Int × Value)) (es : List Ent) (hT : EntTab w news D oD kvs es) (hn : kvs.length ≤ 10) (hs : (kvs.map (·.1)).Pairwise (· < ·))
    (wd : Addr) (w0 w1 w2 : Nat) (t0 t1 t2 : Tok) (ep : Nat) (hw0 : w0 ≤ 10) (hw1 : w1 ≤ 10) (hw2 : w2 ≤ 10) (hW : (wd, W.listOf #[.int (w0 : Int) t0, .int (w1 : Int) t1, .int (w2 : Int) t2] ep) ∈ news)
    (hok : ∀ e ∈ es, IsWay e.way ∧ (w0 = 0 → e.way = Str.ofString "used") ∧ rst e.one w1 = 0 ∧ rst e.two w2 = 0) :
    Does w 139 20 800 news [.ref D, .ref wd] (fun v news' => (∃ t, v = .bytes (rowsB w0 w1 w2 es).toArray t) ∧ news' = news) := by
  intro mean mg mb dp un gd cn cs a ccd cl' outer A₀ base h₀ L m s Q E
  exact (Classical.byContradiction fun hn => @Classical.epsilon_spec _ (fun x : (World) × (Led) × (Addr) × (Obj) × (List (Int × Value)) × (List Ent) × (Addr) × (Tok) × (Tok) × (Tok) × (Nat) × (ExcName → Option Value) × (Str → Option Value) × (Str → Option Value) × (Nat) × (Nat) × (Option (List Code)) × (Str) × (Scope) × (Addr) × (Value) × (List (Str × Addr)) × (List Env) × (Around) × (Heap) × (Heap) × (Addr) × (Str → Option Value) × (Shared) × (Value → Shared → Prop) × (Value → Shared → Prop) => ¬ Zrw_does.G (x.1) (x.2.1) (x.2.2.1) (x.2.2.2.1) (x.2.2.2.2.1) (x.2.2.2.2.2.1) (x.2.2.2.2.2.2.1) (x.2.2.2.2.2.2.2.1) (x.2.2.2.2.2.2.2.2.1) (x.2.2.2.2.2.2.2.2.2.1) (x.2.2.2.2.2.2.2.2.2.2.1) (x.2.2.2.2.2.2.2.2.2.2.2.1) (x.2.2.2.2.2.2.2.2.2.2.2.2.1) (x.2.2.2.2.2.2.2.2.2.2.2.2.2.1) (x.2.2.2.2.2.2.2.2.2.2.2.2.2.2.1) (x.2.2.2.2.2.2.2.2.2.2.2.2.2.2.2.1) (x.2.2.2.2.2.2.2.2.2.2.2.2.2.2.2.2.1) (x.2.2.2.2.2.2.2.2.2.2.2.2.2.2.2.2.2.1) (x.2.2.2.2.2.2.2.2.2.2.2.2.2.2.2.2.2.2.1) (x.2.2.2.2.2.2.2.2.2.2.2.2.2.2.2.2.2.2.2.1) (x.2.2.2.2.2.2.2.2.2.2.2.2.2.2.2.2.2.2.2.2.1) (x.2.2.2.2.2.2.2.2.2.2.2.2.2.2.2.2.2.2.2.2.2.1) (x.2.2.2.2.2.2.2.2.2.2.2.2.2.2.2.2.2.2.2.2.2.2.1) (x.2.2.2.2.2.2.2.2.2.2.2.2.2.2.2.2.2.2.2.2.2.2.2.1) (x.2.2.2.2.2.2.2.2.2.2.2.2.2.2.2.2.2.2.2.2.2.2.2.2.1) (x.2.2.2.2.2.2.2.2.2.2.2.2.2.2.2.2.2.2.2.2.2.2.2.2.2.1) (x.2.2.2.2.2.2.2.2.2.2.2.2.2.2.2.2.2.2.2.2.2.2.2.2.2.2.1) (x.2.2.2.2.2.2.2.2.2.2.2.2.2.2.2.2.2.2.2.2.2.2.2.2.2.2.2.1) (x.2.2.2.2.2.2.2.2.2.2.2.2.2.2.2.2.2.2.2.2.2.2.2.2.2.2.2.2.1) (x.2.2.2.2.2.2.2.2.2.2.2.2.2.2.2.2.2.2.2.2.2.2.2.2.2.2.2.2.2.1) (x.2.2.2.2.2.2.2.2.2.2.2.2.2.2.2.2.2.2.2.2.2.2.2.2.2.2.2.2.2.2)) ⟨(w, news, D, oD, kvs, es, wd, t0, t1, t2, ep, mean, mg, mb, dp, un, gd, cn, cs, a, ccd, cl', outer, A₀, base, h₀, L, m, s, Q, E), hn⟩ Zrw_does.main) w0 w1 w2 hT hn hs hw0 hw1 hw2 hW hok
end Mine
end
section
theorem Mine.offT13 : True := by w_top off; trivial
namespace Mine
theorem raised_sub {base : Heap} {l : List Env} {e : Addr} {cls : Value} {news news' : Led} {h : Heap} (R : RaisedN base l e cls news h) (hs : ∀ p ∈ news', p ∈ news) : RaisedN base l e cls news' h := by
  obtain ⟨B, a0, h1, h2, h3⟩ := R
  exact ⟨B, a0, h1, fun q hq => h2 q (hs q hq), h3⟩
theorem good_next {w0 w1 w2 : Nat} {es : List Ent} {i : Nat} {e : Ent} (hG : ∀ j e, j < i → es[j]? = some e → (w0 = 0 → e.way = Str.ofString "used") ∧ rst e.one w1 = 0 ∧ rst e.two w2 = 0) (he : es[i]? = some e) (h0 : w0 = 0 → e.way = Str.ofString "used") (h1 : rst e.one w1 = 0) (h2 : rst e.two w2 = 0) :
    ∀ j e, j < i + 1 → es[j]? = some e → (w0 = 0 → e.way = Str.ofString "used") ∧ rst e.one w1 = 0 ∧ rst e.two w2 = 0 := by
  intro j e' hj he'
  rcases Nat.lt_or_ge j i with h | h
  · exact hG j e' h he'
  · have : j = i := by omega
    subst this
    rw [he] at he'
    cases he'
    exact ⟨h0, h1, h2⟩
noncomputable def Zrw_fails.G (w : World) (news : Led) (D : Addr) (oD : Obj) (kvs : List (Int × Value)) (es : List Ent) (wd : Addr) (t0 : Tok) (t1 : Tok) (t2 : Tok) (ep : Nat) (mean : ExcName → Option Value) (mg : Str → Option Value) (mb : Str → Option Value) (dp : Nat) (un : Nat) (gd : Option (List Code)) (cn : Str) (cs : Scope) (a : Addr) (ccd : Value) (cl' : List (Str × Addr)) (outer : List Env) (A₀ : Around) (base : Heap) (h₀ : Heap) (L : Addr) (m : Str → Option Value) (s : Shared) (Q : Value → Shared → Prop) (E : Value → Shared → Prop) : Prop :=
  ∀ (w0 : Nat), ∀ (w1 : Nat), ∀ (w2 : Nat), ∀ (hT : EntTab w news D oD kvs es), ∀ (hn : kvs.length ≤ 10), ∀ (hs : (kvs.map (·.1)).Pairwise (· < ·)), ∀ (hw0 : w0 ≤ 10), ∀ (hw1 : w1 ≤ 10), ∀ (hw2 : w2 ≤ 10), ∀ (hW : (wd, W.listOf #[.int (w0 : Int) t0, .int (w1 : Int) t1, .int (w2 : Int) t2] ep) ∈ news), ∀ (hrg : ∀ e ∈ es, IsWay e.way ∧ 0 ≤ e.one ∧ e.one ≤ 100000000 ∧ 0 ≤ e.two ∧ e.two ≤ 100000000), ∀ (hbad : ¬ ∀ e ∈ es, (w0 = 0 → e.way = Str.ofString "used") ∧ rst e.one w1 = 0 ∧ rst e.two w2 = 0), FailsB w 139 30 1200 news [.ref D, .ref wd] mean mg mb dp un gd cn cs a ccd cl' outer A₀ base h₀ L m s Q E
noncomputable def Zrw_fails.c : (World) × (Led) × (Addr) × (Obj) × (List (Int × Value)) × (List Ent) × (Addr) × (Tok) × (Tok) × (Tok) × (Nat) × (ExcName → Option Value) × (Str → Option Value) × (Str → Option Value) × (Nat) × (Nat) × (Option (List Code)) × (Str) × (Scope) × (Addr) × (Value) × (List (Str × Addr)) × (List Env) × (Around) × (Heap) × (Heap) × (Addr) × (Str → Option Value) × (Shared) × (Value → Shared → Prop) × (Value → Shared → Prop) :=
  @Classical.epsilon _ ⟨((aWorld 0 : World), (default : Led), (default : Addr), (default : Obj), (default : List (Int × Value)), (default : List Ent), (default : Addr), (default : Tok), (default : Tok), (default : Tok), (default : Nat), (fun _ => none : ExcName → Option Value), (fun _ => none : Str → Option Value), (fun _ => none : Str → Option Value), (default : Nat), (default : Nat), (default : Option (List Code)), (default : Str), (default : Scope), (default : Addr), (default : Value), (default : List (Str × Addr)), (default : List Env), (callerA : Around), (default : Heap), (default : Heap), (default : Addr), (fun _ => none : Str → Option Value), ({} : Shared), (fun _ _ => True : Value → Shared → Prop), (fun _ _ => True : Value → Shared → Prop))⟩ fun x => ¬ Zrw_fails.G (x.1) (x.2.1) (x.2.2.1) (x.2.2.2.1) (x.2.2.2.2.1) (x.2.2.2.2.2.1) (x.2.2.2.2.2.2.1) (x.2.2.2.2.2.2.2.1) (x.2.2.2.2.2.2.2.2.1) (x.2.2.2.2.2.2.2.2.2.1) (x.2.2.2.2.2.2.2.2.2.2.1) (x.2.2.2.2.2.2.2.2.2.2.2.1) (x.2.2.2.2.2.2.2.2.2.2.2.2.1) (x.2.2.2.2.2.2.2.2.2.2.2.2.2.1) (x.2.2.2.2.2.2.2.2.2.2.2.2.2.2.1) (x.2.2.2.2.2.2.2.2.2.2.2.2.2.2.2.1) (x.2.2.2.2.2.2.2.2.2.2.2.2.2.2.2.2.1) (x.2.2.2.2.2.2.2.2.2.2.2.2.2.2.2.2.2.1) (x.2.2.2.2.2.2.2.2.2.2.2.2.2.2.2.2.2.2.1) (x.2.2.2.2.2.2.2.2.2.2.2.2.2.2.2.2.2.2.2.1) (x.2.2.2.2.2.2.2.2.2.2.2.2.2.2.2.2.2.2.2.2.1) (x.2.2.2.2.2.2.2.2.2.2.2.2.2.2.2.2.2.2.2.2.2.1) (x.2.2.2.2.2.2.2.2.2.2.2.2.2.2.2.2.2.2.2.2.2.2.1) (x.2.2.2.2.2.2.2.2.2.2.2.2.2.2.2.2.2.2.2.2.2.2.2.1) (x.2.2.2.2.2.2.2.2.2.2.2.2.2.2.2.2.2.2.2.2.2.2.2.2.1) (x.2.2.2.2.2.2.2.2.2.2.2.2.2.2.2.2.2.2.2.2.2.2.2.2.2.1) (x.2.2.2.2.2.2.2.2.2.2.2.2.2.2.2.2.2.2.2.2.2.2.2.2.2.2.1) (x.2.2.2.2.2.2.2.2.2.2.2.2.2.2.2.2.2.2.2.2.2.2.2.2.2.2.2.1) (x.2.2.2.2.2.2.2.2.2.2.2.2.2.2.2.2.2.2.2.2.2.2.2.2.2.2.2.2.1) (x.2.2.2.2.2.2.2.2.2.2.2.2.2.2.2.2.2.2.2.2.2.2.2.2.2.2.2.2.2.1) (x.2.2.2.2.2.2.2.2.2.2.2.2.2.2.2.2.2.2.2.2.2.2.2.2.2.2.2.2.2.2)
noncomputable def Zrw_fails.V.w : World := Zrw_fails.c.1
noncomputable def Zrw_fails.V.news : Led := Zrw_fails.c.2.1
noncomputable def Zrw_fails.V.D : Addr := Zrw_fails.c.2.2.1
noncomputable def Zrw_fails.V.oD : Obj := Zrw_fails.c.2.2.2.1
noncomputable def Zrw_fails.V.kvs : List (Int × Value) := Zrw_fails.c.2.2.2.2.1
noncomputable def Zrw_fails.V.es : List Ent := Zrw_fails.c.2.2.2.2.2.1
noncomputable def Zrw_fails.V.wd : Addr := Zrw_fails.c.2.2.2.2.2.2.1
noncomputable def Zrw_fails.V.t0 : Tok := Zrw_fails.c.2.2.2.2.2.2.2.1
noncomputable def Zrw_fails.V.t1 : Tok := Zrw_fails.c.2.2.2.2.2.2.2.2.1
noncomputable def Zrw_fails.V.t2 : Tok := Zrw_fails.c.2.2.2.2.2.2.2.2.2.1
noncomputable def Zrw_fails.V.ep : Nat := Zrw_fails.c.2.2.2.2.2.2.2.2.2.2.1
noncomputable def Zrw_fails.V.mean : ExcName → Option Value := Zrw_fails.c.2.2.2.2.2.2.2.2.2.2.2.1
noncomputable def Zrw_fails.V.mg : Str → Option Value := Zrw_fails.c.2.2.2.2.2.2.2.2.2.2.2.2.1
noncomputable def Zrw_fails.V.mb : Str → Option Value := Zrw_fails.c.2.2.2.2.2.2.2.2.2.2.2.2.2.1
noncomputable def Zrw_fails.V.dp : Nat := Zrw_fails.c.2.2.2.2.2.2.2.2.2.2.2.2.2.2.1
noncomputable def Zrw_fails.V.un : Nat := Zrw_fails.c.2.2.2.2.2.2.2.2.2.2.2.2.2.2.2.1
noncomputable def Zrw_fails.V.gd : Option (List Code) := Zrw_fails.c.2.2.2.2.2.2.2.2.2.2.2.2.2.2.2.2.1
noncomputable def Zrw_fails.V.cn : Str := Zrw_fails.c.2.2.2.2.2.2.2.2.2.2.2.2.2.2.2.2.2.1
noncomputable def Zrw_fails.V.cs : Scope := Zrw_fails.c.2.2.2.2.2.2.2.2.2.2.2.2.2.2.2.2.2.2.1
noncomputable def Zrw_fails.V.a : Addr := Zrw_fails.c.2.2.2.2.2.2.2.2.2.2.2.2.2.2.2.2.2.2.2.1
noncomputable def Zrw_fails.V.ccd : Value := Zrw_fails.c.2.2.2.2.2.2.2.2.2.2.2.2.2.2.2.2.2.2.2.2.1
noncomputable def Zrw_fails.V.cl' : List (Str × Addr) := Zrw_fails.c.2.2.2.2.2.2.2.2.2.2.2.2.2.2.2.2.2.2.2.2.2.1
noncomputable def Zrw_fails.V.outer : List Env := Zrw_fails.c.2.2.2.2.2.2.2.2.2.2.2.2.2.2.2.2.2.2.2.2.2.2.1
noncomputable def Zrw_fails.V.A₀ : Around := Zrw_fails.c.2.2.2.2.2.2.2.2.2.2.2.2.2.2.2.2.2.2.2.2.2.2.2.1
noncomputable def Zrw_fails.V.base : Heap := Zrw_fails.c.2.2.2.2.2.2.2.2.2.2.2.2.2.2.2.2.2.2.2.2.2.2.2.2.1
noncomputable def Zrw_fails.V.h₀ : Heap := Zrw_fails.c.2.2.2.2.2.2.2.2.2.2.2.2.2.2.2.2.2.2.2.2.2.2.2.2.2.1
noncomputable def Zrw_fails.V.L : Addr := Zrw_fails.c.2.2.2.2.2.2.2.2.2.2.2.2.2.2.2.2.2.2.2.2.2.2.2.2.2.2.1
noncomputable def Zrw_fails.V.m : Str → Option Value := Zrw_fails.c.2.2.2.2.2.2.2.2.2.2.2.2.2.2.2.2.2.2.2.2.2.2.2.2.2.2.2.1
noncomputable def Zrw_fails.V.s : Shared := Zrw_fails.c.2.2.2.2.2.2.2.2.2.2.2.2.2.2.2.2.2.2.2.2.2.2.2.2.2.2.2.2.1
noncomputable def Zrw_fails.V.Q : Value → Shared → Prop := Zrw_fails.c.2.2.2.2.2.2.2.2.2.2.2.2.2.2.2.2.2.2.2.2.2.2.2.2.2.2.2.2.2.1
noncomputable def Zrw_fails.V.E : Value → Shared → Prop := Zrw_fails.c.2.2.2.2.2.2.2.2.2.2.2.2.2.2.2.2.2.2.2.2.2.2.2.2.2.2.2.2.2.2
section
open Zrw_fails.V
set_option maxHeartbeats 8000000 in
theorem Zrw_fails.main : Zrw_fails.G Zrw_fails.V.w Zrw_fails.V.news Zrw_fails.V.D Zrw_fails.V.oD Zrw_fails.V.kvs Zrw_fails.V.es Zrw_fails.V.wd Zrw_fails.V.t0 Zrw_fails.V.t1 Zrw_fails.V.t2 Zrw_fails.V.ep Zrw_fails.V.mean Zrw_fails.V.mg Zrw_fails.V.mb Zrw_fails.V.dp Zrw_fails.V.un Zrw_fails.V.gd Zrw_fails.V.cn Zrw_fails.V.cs Zrw_fails.V.a Zrw_fails.V.ccd Zrw_fails.V.cl' Zrw_fails.V.outer Zrw_fails.V.A₀ Zrw_fails.V.base Zrw_fails.V.h₀ Zrw_fails.V.L Zrw_fails.V.m Zrw_fails.V.s Zrw_fails.V.Q Zrw_fails.V.E := by
  unfold Zrw_fails.G FailsB
  k_fill
  intro w0 w1 w2 hT hn hs hw0 hw1 hw2 hW hrg hbad B F X N T hk hdp hun hexc
  have hmem := hT.mem
  have hdict := hT.dict
  have hlo := hT.lo
  have hn64 : kvs.length < 64 := by omega
  refine wpAny_call ?_
  k_dflt cell_enter
  ((repeat' ( (fail_if_success (with_reducible show wpAny _ _ (pyIter (Value.ref _)) _ _ _)); (fail_if_success (with_reducible show wpAny _ _ (exec (Stmt.While _ _ _ _) _) _ _ _)); (fail_if_success (with_reducible show wpAny _ _ (call (Value.ref 87) _) _ _ _)); (fail_if_success (with_reducible show wpAny _ _ (call (Value.ref 104) _) _ _ _)); (first | (k_unfold; (try dsimp only)) | (k_end; wrow_close) | ((with_reducible show wpAny _ _ (exec (Stmt.Raise _ _ _) _) _ _ _); (k_here; (refine raise_own rfl ?_))) | ((with_reducible show wpAny _ _ (call (Value.builtin "tuple.index") _ _) _ _ _); (k_here; k_dflt (refine' tidx_K ?my1 ?my2 ?my3 ?my4 ?_; (case my1 => k_asm); (case my2 => k_asm); (case my3 => k_is); (case my4 => first | assumption | exact .inl ⟨rfl, rfl⟩ | exact .inr (.inl ⟨rfl, rfl⟩) | exact .inr (.inr ⟨rfl, rfl⟩))); intro t9 tk9)) | (k_here; (with_reducible show wpAny _ _ (getMethod (Value.ref 90) _ _) _ _ _); k_dflt (refine' tidx_method ?my1 ?my2 ?my3 ?_; (case my1 => k_asm); (case my2 => k_asm); (case my3 => k_is))) | ((with_reducible show wpAny _ _ (getMethod (Value.bytes _ _) _ _) _ _ _); (k_here; (refine join_method ?_))) | (k_here; (with_reducible show wpAny _ _ (subscriptTail _ _ (Value.ref _) (Value.int (Ent.key _) _)) _ _ _); k_dflt (refine' kda_item (knd := PySem.intKind _ _) ?my1 ?my2 ?my3 (intKind_is _ _ _ _) ?my4 ?_ ?my5 ?my6; (case my1 => k_asm); (case my2 => k_mem); (case my3 => assumption); (case my4 => assumption); (case my5 => with_unfolding_all rfl); (case my6 => intro _; with_unfolding_all rfl))) | (k_here; (with_reducible show wpAny _ _ (subscriptTail _ _ (Value.ref _) (Value.int _ _)) _ _ _); k_dflt (refine' item_lit ?my1 ?my2 ?my4 ?my5 ?my6 ?_ ?my3; (case my1 => k_asm); (case my2 => k_mem); (case my4 => decide); (case my5 => decide); (case my6 => rfl); (case my3 => with_unfolding_all rfl))) | ((with_reducible show wpAny _ _ (call (Value.builtin "sorted") _ _) _ _ _); (k_here; (with_reducible show wpAny _ _ (call (Value.builtin "sorted") [Value.ref _]) _ _ _); k_dflt (refine' sorted_dict ?my1 ?my2 ?my3 ?my4 ?my5 ?my6 ?my7 ?my8 ?_; (case my1 => exact rfl); (case my2 => k_asm); (case my3 => k_asm); (case my4 => k_mem); (case my5 => assumption); (case my6 => assumption); (case my7 => assumption); (case my8 => assumption)); intro D' vs' c' h' tk' F' N' l1 hI')) | ((with_reducible show wpAny _ _ (call (Value.builtin "bytes.join") _ _) _ _ _); (k_here; k_dflt (refine' join_K ?my1 ?my2 ?my3 ?my4 ?my5 ?my6 ?_; (case my1 => k_asm); (case my2 => k_asm); (case my3 => k_mem); (case my4 => assumption); (case my5 => assumption); (case my6 => assumption)); intro t9 tk9)) | walk1 | (dsimp only; walk1) | (leave1; walk_say "STEP leave1"; try dsimp only) | fail "no step"))); all_goals (try k_fold))
  (rename Fr _ _ _ _ => lF')
  (rename News _ _ _ _ => lN')
  obtain ⟨S, vsS, cS, hS, hvS, hcS, -⟩ := led_lst lN'
  subst hS hvS hcS
  obtain ⟨R, hR, -⟩ := led_2 lN'
  subst hR
  (rename IntsAre _ _ => hI)
  (rename ∀ (q : Addr × Obj), q ∈ (R, _) :: news → q.1 < S => l1)
  have hRS : @LT.lt Nat _ R S := l1 _ (.head _)
  have hSR : @Ne Nat S R := Nat.ne_of_gt hRS
  have hRn : ∀ p ∈ news, @Ne Nat p.1 R := fun p hp => Nat.ne_of_lt ((by assumption : ∀ p ∈ news, p.1 < R) p hp)
  have lN2 : News _ _ _ ((R, W.listOf #[] 0) :: (S, W.listOf _ _) :: news) := news_sub lN' (by walk_at "MY sub")
  refine iter_list (fun m₀ i m₁ l => ∃ its ep, l = (R, W.listOf (List.toArray its) ep) :: (S, W.listOf vsS.toArray cS) :: news ∧ its.length ≤ 3 * i ∧ (∀ j e, j < i → es[j]? = some e → (w0 = 0 → e.way = Str.ofString "used") ∧ rst e.one w1 = 0 ∧ rst e.two w2 = 0) ∧ Like (Str.ofString "number") m₀ m₁ [(Str.ofString "entry", m₁ (Str.ofString "entry"))])
    rfl lF' lN2 (.tail _ (.head _)) ⟨[], 0, rfl, by simp, fun j e hj => absurd hj (Nat.not_lt_zero _), Like.start ⟨rfl, trivial⟩⟩ ?_ ?_
  · rintro i v m₁ _ I oI h tk QT hQT hx ⟨its, ep, rfl, hB, hG, hL⟩ hmem2 ho F₁ N₁
    have F₂ := hL.turn F₁
    simp only [upd] at F₂
    have hil : i < kvs.length := by
      have := hI.length
      rw [List.length_map] at this
      rw [← this]
      rcases Nat.lt_or_ge i vsS.length with h | h
      · exact h
      · simp [List.getElem?_eq_none h] at hx
    obtain ⟨⟨k, y⟩, hky⟩ : ∃ p, kvs[i]? = some p := ⟨_, List.getElem?_eq_getElem hil⟩
    obtain ⟨e, x, he, rfl, rfl, d, a1, a2, a3, a4, a5, a6, m1, m2⟩ := hT.ents.get hky
    have hat := hT.at hky
    obtain ⟨tv, hv⟩ := hI.get i e.key (by rw [List.getElem?_map, hky]; rfl)
    have hv2 : v = .int e.key tv := by
      have hx' := hx
      rw [List.getElem?_toArray, hv] at hx'
      exact (Option.some.inj hx').symm
    subst hv2
    obtain ⟨hway, ho1, ho2', ht1, ht2⟩ := hrg e (List.mem_of_getElem? he)
    have hes : es.length ≤ 10 := by rw [← hT.ents.length]; exact hn
    have hz9 : its.length ≤ 97 := by
      have h1 : i < es.length := by rw [← hT.ents.length]; exact hil
      omega
    have hRI := ho _ (.head _)
    have hSI := ho _ (.tail _ (.head _))
    dsimp only at hRI hSI
    have hnI : ∀ p ∈ news, @Ne Nat p.1 I := fun p hp => ho p (.tail _ (.tail _ hp))
    have ho2 : ∀ (x : Obj), ∀ p ∈ (R, x) :: (S, W.listOf vsS.toArray cS) :: news, @Ne Nat p.1 I := fun x => List.forall_mem_cons.mpr ⟨hRI, List.forall_mem_cons.mpr ⟨hSI, hnI⟩⟩
    unfold entD at m2
    clear F₁ lF' lN' lN2
    try k_fold
    by_cases hp : 0 < w0
    · have hp2 : (0 : Int) < (w0 : Int) := by omega
      have hwo := way_or hway
      have hrw : rst (wayIx e.way) w0 = 0 := rst_small (way_rng hway).1 (way_rng hway).2 hp
      all_goals (
        ((repeat' ( (fail_if_success (with_reducible show wpAny _ _ (pyIter (Value.ref _)) _ _ _)); (fail_if_success (with_reducible show wpAny _ _ (exec (Stmt.While _ _ _ _) _) _ _ _)); (fail_if_success (with_reducible show wpAny _ _ (call (Value.ref 87) _) _ _ _)); (fail_if_success (with_reducible show wpAny _ _ (call (Value.ref 104) _) _ _ _)); (first | (k_unfold; (try dsimp only)) | (k_end; wrow_close) | ((with_reducible show wpAny _ _ (exec (Stmt.Raise _ _ _) _) _ _ _); (k_here; (refine raise_own rfl ?_))) | ((with_reducible show wpAny _ _ (call (Value.builtin "tuple.index") _ _) _ _ _); (k_here; k_dflt (refine' tidx_K ?my1 ?my2 ?my3 ?my4 ?_; (case my1 => k_asm); (case my2 => k_asm); (case my3 => k_is); (case my4 => first | assumption | exact .inl ⟨rfl, rfl⟩ | exact .inr (.inl ⟨rfl, rfl⟩) | exact .inr (.inr ⟨rfl, rfl⟩))); intro t9 tk9)) | (k_here; (with_reducible show wpAny _ _ (getMethod (Value.ref 90) _ _) _ _ _); k_dflt (refine' tidx_method ?my1 ?my2 ?my3 ?_; (case my1 => k_asm); (case my2 => k_asm); (case my3 => k_is))) | ((with_reducible show wpAny _ _ (getMethod (Value.bytes _ _) _ _) _ _ _); (k_here; (refine join_method ?_))) | (k_here; (with_reducible show wpAny _ _ (subscriptTail _ _ (Value.ref _) (Value.int (Ent.key _) _)) _ _ _); k_dflt (refine' kda_item (knd := PySem.intKind _ _) ?my1 ?my2 ?my3 (intKind_is _ _ _ _) ?my4 ?_ ?my5 ?my6; (case my1 => k_asm); (case my2 => k_mem); (case my3 => assumption); (case my4 => assumption); (case my5 => with_unfolding_all rfl); (case my6 => intro _; with_unfolding_all rfl))) | (k_here; (with_reducible show wpAny _ _ (subscriptTail _ _ (Value.ref _) (Value.int _ _)) _ _ _); k_dflt (refine' item_lit ?my1 ?my2 ?my4 ?my5 ?my6 ?_ ?my3; (case my1 => k_asm); (case my2 => k_mem); (case my4 => decide); (case my5 => decide); (case my6 => rfl); (case my3 => with_unfolding_all rfl))) | ((with_reducible show wpAny _ _ (call (Value.builtin "sorted") _ _) _ _ _); (k_here; (with_reducible show wpAny _ _ (call (Value.builtin "sorted") [Value.ref _]) _ _ _); k_dflt (refine' sorted_dict ?my1 ?my2 ?my3 ?my4 ?my5 ?my6 ?my7 ?my8 ?_; (case my1 => exact rfl); (case my2 => k_asm); (case my3 => k_asm); (case my4 => k_mem); (case my5 => assumption); (case my6 => assumption); (case my7 => assumption); (case my8 => assumption)); intro D' vs' c' h' tk' F' N' l1 hI')) | ((with_reducible show wpAny _ _ (call (Value.builtin "bytes.join") _ _) _ _ _); (k_here; k_dflt (refine' join_K ?my1 ?my2 ?my3 ?my4 ?my5 ?my6 ?_; (case my1 => k_asm); (case my2 => k_asm); (case my3 => k_mem); (case my4 => assumption); (case my5 => assumption); (case my6 => assumption)); intro t9 tk9)) | walk1 | (dsimp only; walk1) | (leave1; walk_say "STEP leave1"; try dsimp only) | fail "no step"))); all_goals (try k_fold))
        ((k_dflt (refine' does_pure (fo_does _ _ _ _ _ _ ?z ?z2) ?k1 ?k2 ?k3 ?k4 ?k5 ?k6 ?k7 ?k8 ?_; (case z => assumption); (case z2 => assumption)); (walk_at "MY sides"); (intro v9 h9 tk9 P9 F9 N9; obtain ⟨t9, e9⟩ := P9; subst e9); (try k_fold)))
        ((repeat' ( (fail_if_success (with_reducible show wpAny _ _ (pyIter (Value.ref _)) _ _ _)); (fail_if_success (with_reducible show wpAny _ _ (exec (Stmt.While _ _ _ _) _) _ _ _)); (fail_if_success (with_reducible show wpAny _ _ (call (Value.ref 87) _) _ _ _)); (fail_if_success (with_reducible show wpAny _ _ (call (Value.ref 104) _) _ _ _)); (first | (k_unfold; (try dsimp only)) | (k_end; wrow_close) | ((with_reducible show wpAny _ _ (exec (Stmt.Raise _ _ _) _) _ _ _); (k_here; (refine raise_own rfl ?_))) | ((with_reducible show wpAny _ _ (call (Value.builtin "tuple.index") _ _) _ _ _); (k_here; k_dflt (refine' tidx_K ?my1 ?my2 ?my3 ?my4 ?_; (case my1 => k_asm); (case my2 => k_asm); (case my3 => k_is); (case my4 => first | assumption | exact .inl ⟨rfl, rfl⟩ | exact .inr (.inl ⟨rfl, rfl⟩) | exact .inr (.inr ⟨rfl, rfl⟩))); intro t9 tk9)) | (k_here; (with_reducible show wpAny _ _ (getMethod (Value.ref 90) _ _) _ _ _); k_dflt (refine' tidx_method ?my1 ?my2 ?my3 ?_; (case my1 => k_asm); (case my2 => k_asm); (case my3 => k_is))) | ((with_reducible show wpAny _ _ (getMethod (Value.bytes _ _) _ _) _ _ _); (k_here; (refine join_method ?_))) | (k_here; (with_reducible show wpAny _ _ (subscriptTail _ _ (Value.ref _) (Value.int (Ent.key _) _)) _ _ _); k_dflt (refine' kda_item (knd := PySem.intKind _ _) ?my1 ?my2 ?my3 (intKind_is _ _ _ _) ?my4 ?_ ?my5 ?my6; (case my1 => k_asm); (case my2 => k_mem); (case my3 => assumption); (case my4 => assumption); (case my5 => with_unfolding_all rfl); (case my6 => intro _; with_unfolding_all rfl))) | (k_here; (with_reducible show wpAny _ _ (subscriptTail _ _ (Value.ref _) (Value.int _ _)) _ _ _); k_dflt (refine' item_lit ?my1 ?my2 ?my4 ?my5 ?my6 ?_ ?my3; (case my1 => k_asm); (case my2 => k_mem); (case my4 => decide); (case my5 => decide); (case my6 => rfl); (case my3 => with_unfolding_all rfl))) | ((with_reducible show wpAny _ _ (call (Value.builtin "sorted") _ _) _ _ _); (k_here; (with_reducible show wpAny _ _ (call (Value.builtin "sorted") [Value.ref _]) _ _ _); k_dflt (refine' sorted_dict ?my1 ?my2 ?my3 ?my4 ?my5 ?my6 ?my7 ?my8 ?_; (case my1 => exact rfl); (case my2 => k_asm); (case my3 => k_asm); (case my4 => k_mem); (case my5 => assumption); (case my6 => assumption); (case my7 => assumption); (case my8 => assumption)); intro D' vs' c' h' tk' F' N' l1 hI')) | ((with_reducible show wpAny _ _ (call (Value.builtin "bytes.join") _ _) _ _ _); (k_here; k_dflt (refine' join_K ?my1 ?my2 ?my3 ?my4 ?my5 ?my6 ?_; (case my1 => k_asm); (case my2 => k_asm); (case my3 => k_mem); (case my4 => assumption); (case my5 => assumption); (case my6 => assumption)); intro t9 tk9)) | walk1 | (dsimp only; walk1) | (leave1; walk_say "STEP leave1"; try dsimp only) | fail "no step"))); all_goals (try k_fold))
        by_cases h1 : rst e.one w1 = 0
        · ((k_dflt (refine' does_pure (fo_does _ _ _ _ _ _ ?z ?z2) ?k1 ?k2 ?k3 ?k4 ?k5 ?k6 ?k7 ?k8 ?_; (case z => assumption); (case z2 => assumption)); (walk_at "MY sides"); (intro v9 h9 tk9 P9 F9 N9; obtain ⟨t9, e9⟩ := P9; subst e9); (try k_fold)))
          ((repeat' ( (fail_if_success (with_reducible show wpAny _ _ (pyIter (Value.ref _)) _ _ _)); (fail_if_success (with_reducible show wpAny _ _ (exec (Stmt.While _ _ _ _) _) _ _ _)); (fail_if_success (with_reducible show wpAny _ _ (call (Value.ref 87) _) _ _ _)); (fail_if_success (with_reducible show wpAny _ _ (call (Value.ref 104) _) _ _ _)); (first | (k_unfold; (try dsimp only)) | (k_end; wrow_close) | ((with_reducible show wpAny _ _ (exec (Stmt.Raise _ _ _) _) _ _ _); (k_here; (refine raise_own rfl ?_))) | ((with_reducible show wpAny _ _ (call (Value.builtin "tuple.index") _ _) _ _ _); (k_here; k_dflt (refine' tidx_K ?my1 ?my2 ?my3 ?my4 ?_; (case my1 => k_asm); (case my2 => k_asm); (case my3 => k_is); (case my4 => first | assumption | exact .inl ⟨rfl, rfl⟩ | exact .inr (.inl ⟨rfl, rfl⟩) | exact .inr (.inr ⟨rfl, rfl⟩))); intro t9 tk9)) | (k_here; (with_reducible show wpAny _ _ (getMethod (Value.ref 90) _ _) _ _ _); k_dflt (refine' tidx_method ?my1 ?my2 ?my3 ?_; (case my1 => k_asm); (case my2 => k_asm); (case my3 => k_is))) | ((with_reducible show wpAny _ _ (getMethod (Value.bytes _ _) _ _) _ _ _); (k_here; (refine join_method ?_))) | (k_here; (with_reducible show wpAny _ _ (subscriptTail _ _ (Value.ref _) (Value.int (Ent.key _) _)) _ _ _); k_dflt (refine' kda_item (knd := PySem.intKind _ _) ?my1 ?my2 ?my3 (intKind_is _ _ _ _) ?my4 ?_ ?my5 ?my6; (case my1 => k_asm); (case my2 => k_mem); (case my3 => assumption); (case my4 => assumption); (case my5 => with_unfolding_all rfl); (case my6 => intro _; with_unfolding_all rfl))) | (k_here; (with_reducible show wpAny _ _ (subscriptTail _ _ (Value.ref _) (Value.int _ _)) _ _ _); k_dflt (refine' item_lit ?my1 ?my2 ?my4 ?my5 ?my6 ?_ ?my3; (case my1 => k_asm); (case my2 => k_mem); (case my4 => decide); (case my5 => decide); (case my6 => rfl); (case my3 => with_unfolding_all rfl))) | ((with_reducible show wpAny _ _ (call (Value.builtin "sorted") _ _) _ _ _); (k_here; (with_reducible show wpAny _ _ (call (Value.builtin "sorted") [Value.ref _]) _ _ _); k_dflt (refine' sorted_dict ?my1 ?my2 ?my3 ?my4 ?my5 ?my6 ?my7 ?my8 ?_; (case my1 => exact rfl); (case my2 => k_asm); (case my3 => k_asm); (case my4 => k_mem); (case my5 => assumption); (case my6 => assumption); (case my7 => assumption); (case my8 => assumption)); intro D' vs' c' h' tk' F' N' l1 hI')) | ((with_reducible show wpAny _ _ (call (Value.builtin "bytes.join") _ _) _ _ _); (k_here; k_dflt (refine' join_K ?my1 ?my2 ?my3 ?my4 ?my5 ?my6 ?_; (case my1 => k_asm); (case my2 => k_asm); (case my3 => k_mem); (case my4 => assumption); (case my5 => assumption); (case my6 => assumption)); intro t9 tk9)) | walk1 | (dsimp only; walk1) | (leave1; walk_say "STEP leave1"; try dsimp only) | fail "no step"))); all_goals (try k_fold))
          by_cases h2 : rst e.two w2 = 0
          · ((k_dflt (refine' does_pure (fo_does _ _ _ _ _ _ ?z ?z2) ?k1 ?k2 ?k3 ?k4 ?k5 ?k6 ?k7 ?k8 ?_; (case z => assumption); (case z2 => assumption)); (walk_at "MY sides"); (intro v9 h9 tk9 P9 F9 N9; obtain ⟨t9, e9⟩ := P9; subst e9); (try k_fold)))
            ((repeat' ( (fail_if_success (with_reducible show wpAny _ _ (pyIter (Value.ref _)) _ _ _)); (fail_if_success (with_reducible show wpAny _ _ (exec (Stmt.While _ _ _ _) _) _ _ _)); (fail_if_success (with_reducible show wpAny _ _ (call (Value.ref 87) _) _ _ _)); (fail_if_success (with_reducible show wpAny _ _ (call (Value.ref 104) _) _ _ _)); (first | (k_unfold; (try dsimp only)) | (k_end; wrow_close) | ((with_reducible show wpAny _ _ (exec (Stmt.Raise _ _ _) _) _ _ _); (k_here; (refine raise_own rfl ?_))) | ((with_reducible show wpAny _ _ (call (Value.builtin "tuple.index") _ _) _ _ _); (k_here; k_dflt (refine' tidx_K ?my1 ?my2 ?my3 ?my4 ?_; (case my1 => k_asm); (case my2 => k_asm); (case my3 => k_is); (case my4 => first | assumption | exact .inl ⟨rfl, rfl⟩ | exact .inr (.inl ⟨rfl, rfl⟩) | exact .inr (.inr ⟨rfl, rfl⟩))); intro t9 tk9)) | (k_here; (with_reducible show wpAny _ _ (getMethod (Value.ref 90) _ _) _ _ _); k_dflt (refine' tidx_method ?my1 ?my2 ?my3 ?_; (case my1 => k_asm); (case my2 => k_asm); (case my3 => k_is))) | ((with_reducible show wpAny _ _ (getMethod (Value.bytes _ _) _ _) _ _ _); (k_here; (refine join_method ?_))) | (k_here; (with_reducible show wpAny _ _ (subscriptTail _ _ (Value.ref _) (Value.int (Ent.key _) _)) _ _ _); k_dflt (refine' kda_item (knd := PySem.intKind _ _) ?my1 ?my2 ?my3 (intKind_is _ _ _ _) ?my4 ?_ ?my5 ?my6; (case my1 => k_asm); (case my2 => k_mem); (case my3 => assumption); (case my4 => assumption); (case my5 => with_unfolding_all rfl); (case my6 => intro _; with_unfolding_all rfl))) | (k_here; (with_reducible show wpAny _ _ (subscriptTail _ _ (Value.ref _) (Value.int _ _)) _ _ _); k_dflt (refine' item_lit ?my1 ?my2 ?my4 ?my5 ?my6 ?_ ?my3; (case my1 => k_asm); (case my2 => k_mem); (case my4 => decide); (case my5 => decide); (case my6 => rfl); (case my3 => with_unfolding_all rfl))) | ((with_reducible show wpAny _ _ (call (Value.builtin "sorted") _ _) _ _ _); (k_here; (with_reducible show wpAny _ _ (call (Value.builtin "sorted") [Value.ref _]) _ _ _); k_dflt (refine' sorted_dict ?my1 ?my2 ?my3 ?my4 ?my5 ?my6 ?my7 ?my8 ?_; (case my1 => exact rfl); (case my2 => k_asm); (case my3 => k_asm); (case my4 => k_mem); (case my5 => assumption); (case my6 => assumption); (case my7 => assumption); (case my8 => assumption)); intro D' vs' c' h' tk' F' N' l1 hI')) | ((with_reducible show wpAny _ _ (call (Value.builtin "bytes.join") _ _) _ _ _); (k_here; k_dflt (refine' join_K ?my1 ?my2 ?my3 ?my4 ?my5 ?my6 ?_; (case my1 => k_asm); (case my2 => k_asm); (case my3 => k_mem); (case my4 => assumption); (case my5 => assumption); (case my6 => assumption)); intro t9 tk9)) | walk1 | (dsimp only; walk1) | (leave1; walk_say "STEP leave1"; try dsimp only) | fail "no step"))); all_goals (try k_fold))
            (rename Fr _ _ _ _ => lF')
            (rename News _ _ _ _ => lN')
            rw [List.push_toArray, List.push_toArray, List.push_toArray] at lN'
            exact hQT _ _ <| TurnEnd.next lF' lN' (fun p hp => by rw [List.mem_singleton.mp hp]; exact .tail _ (.head _)) (ho2 _) ⟨_, _, rfl, by simp; omega, good_next hG he (fun h => absurd h (by omega)) h1 h2, ⟨rfl, trivial⟩, fun z hx hz => by simp only [Off] at hz; simp [hx, hz]⟩
          · ((refine' fails_use (fo_fails _ _ _ _ _ _ ?z1 ?z2 ?z3 ?z4) ?k1 ?k2 ?k3 ?k4 ?k5 ?k6 ?k7 ?k8 ?_; (case z4 => assumption); (case z1 => assumption); (case z2 => assumption); (case z3 => assumption)); (walk_at "MY sides"))
            intro e9 h9 tk9 g9 R9 F9 U9
            exact leave_onN (by assumption) F9 (raised_sub R9 (by walk_at "MY sub")) U9 fun h8 R8 U8 => hexc _ _ _ _ R8 (by assumption) U8
        · ((refine' fails_use (fo_fails _ _ _ _ _ _ ?z1 ?z2 ?z3 ?z4) ?k1 ?k2 ?k3 ?k4 ?k5 ?k6 ?k7 ?k8 ?_; (case z4 => assumption); (case z1 => assumption); (case z2 => assumption); (case z3 => assumption)); (walk_at "MY sides"))
          intro e9 h9 tk9 g9 R9 F9 U9
          exact leave_onN (by assumption) F9 (raised_sub R9 (by walk_at "MY sub")) U9 fun h8 R8 U8 => hexc _ _ _ _ R8 (by assumption) U8)
    · have hp0 : w0 = 0 := by omega
      subst hp0
      by_cases hu : e.way = Str.ofString "used"
      · rw [hu] at m2
        ((repeat' ( (fail_if_success (with_reducible show wpAny _ _ (pyIter (Value.ref _)) _ _ _)); (fail_if_success (with_reducible show wpAny _ _ (exec (Stmt.While _ _ _ _) _) _ _ _)); (fail_if_success (with_reducible show wpAny _ _ (call (Value.ref 87) _) _ _ _)); (fail_if_success (with_reducible show wpAny _ _ (call (Value.ref 104) _) _ _ _)); (first | (k_unfold; (try dsimp only)) | (k_end; wrow_close) | ((with_reducible show wpAny _ _ (exec (Stmt.Raise _ _ _) _) _ _ _); (k_here; (refine raise_own rfl ?_))) | ((with_reducible show wpAny _ _ (call (Value.builtin "tuple.index") _ _) _ _ _); (k_here; k_dflt (refine' tidx_K ?my1 ?my2 ?my3 ?my4 ?_; (case my1 => k_asm); (case my2 => k_asm); (case my3 => k_is); (case my4 => first | assumption | exact .inl ⟨rfl, rfl⟩ | exact .inr (.inl ⟨rfl, rfl⟩) | exact .inr (.inr ⟨rfl, rfl⟩))); intro t9 tk9)) | (k_here; (with_reducible show wpAny _ _ (getMethod (Value.ref 90) _ _) _ _ _); k_dflt (refine' tidx_method ?my1 ?my2 ?my3 ?_; (case my1 => k_asm); (case my2 => k_asm); (case my3 => k_is))) | ((with_reducible show wpAny _ _ (getMethod (Value.bytes _ _) _ _) _ _ _); (k_here; (refine join_method ?_))) | (k_here; (with_reducible show wpAny _ _ (subscriptTail _ _ (Value.ref _) (Value.int (Ent.key _) _)) _ _ _); k_dflt (refine' kda_item (knd := PySem.intKind _ _) ?my1 ?my2 ?my3 (intKind_is _ _ _ _) ?my4 ?_ ?my5 ?my6; (case my1 => k_asm); (case my2 => k_mem); (case my3 => assumption); (case my4 => assumption); (case my5 => with_unfolding_all rfl); (case my6 => intro _; with_unfolding_all rfl))) | (k_here; (with_reducible show wpAny _ _ (subscriptTail _ _ (Value.ref _) (Value.int _ _)) _ _ _); k_dflt (refine' item_lit ?my1 ?my2 ?my4 ?my5 ?my6 ?_ ?my3; (case my1 => k_asm); (case my2 => k_mem); (case my4 => decide); (case my5 => decide); (case my6 => rfl); (case my3 => with_unfolding_all rfl))) | ((with_reducible show wpAny _ _ (call (Value.builtin "sorted") _ _) _ _ _); (k_here; (with_reducible show wpAny _ _ (call (Value.builtin "sorted") [Value.ref _]) _ _ _); k_dflt (refine' sorted_dict ?my1 ?my2 ?my3 ?my4 ?my5 ?my6 ?my7 ?my8 ?_; (case my1 => exact rfl); (case my2 => k_asm); (case my3 => k_asm); (case my4 => k_mem); (case my5 => assumption); (case my6 => assumption); (case my7 => assumption); (case my8 => assumption)); intro D' vs' c' h' tk' F' N' l1 hI')) | ((with_reducible show wpAny _ _ (call (Value.builtin "bytes.join") _ _) _ _ _); (k_here; k_dflt (refine' join_K ?my1 ?my2 ?my3 ?my4 ?my5 ?my6 ?_; (case my1 => k_asm); (case my2 => k_asm); (case my3 => k_mem); (case my4 => assumption); (case my5 => assumption); (case my6 => assumption)); intro t9 tk9)) | walk1 | (dsimp only; walk1) | (leave1; walk_say "STEP leave1"; try dsimp only) | fail "no step"))); all_goals (try k_fold))
        by_cases h1 : rst e.one w1 = 0
        · ((k_dflt (refine' does_pure (fo_does _ _ _ _ _ _ ?z ?z2) ?k1 ?k2 ?k3 ?k4 ?k5 ?k6 ?k7 ?k8 ?_; (case z => assumption); (case z2 => assumption)); (walk_at "MY sides"); (intro v9 h9 tk9 P9 F9 N9; obtain ⟨t9, e9⟩ := P9; subst e9); (try k_fold)))
          ((repeat' ( (fail_if_success (with_reducible show wpAny _ _ (pyIter (Value.ref _)) _ _ _)); (fail_if_success (with_reducible show wpAny _ _ (exec (Stmt.While _ _ _ _) _) _ _ _)); (fail_if_success (with_reducible show wpAny _ _ (call (Value.ref 87) _) _ _ _)); (fail_if_success (with_reducible show wpAny _ _ (call (Value.ref 104) _) _ _ _)); (first | (k_unfold; (try dsimp only)) | (k_end; wrow_close) | ((with_reducible show wpAny _ _ (exec (Stmt.Raise _ _ _) _) _ _ _); (k_here; (refine raise_own rfl ?_))) | ((with_reducible show wpAny _ _ (call (Value.builtin "tuple.index") _ _) _ _ _); (k_here; k_dflt (refine' tidx_K ?my1 ?my2 ?my3 ?my4 ?_; (case my1 => k_asm); (case my2 => k_asm); (case my3 => k_is); (case my4 => first | assumption | exact .inl ⟨rfl, rfl⟩ | exact .inr (.inl ⟨rfl, rfl⟩) | exact .inr (.inr ⟨rfl, rfl⟩))); intro t9 tk9)) | (k_here; (with_reducible show wpAny _ _ (getMethod (Value.ref 90) _ _) _ _ _); k_dflt (refine' tidx_method ?my1 ?my2 ?my3 ?_; (case my1 => k_asm); (case my2 => k_asm); (case my3 => k_is))) | ((with_reducible show wpAny _ _ (getMethod (Value.bytes _ _) _ _) _ _ _); (k_here; (refine join_method ?_))) | (k_here; (with_reducible show wpAny _ _ (subscriptTail _ _ (Value.ref _) (Value.int (Ent.key _) _)) _ _ _); k_dflt (refine' kda_item (knd := PySem.intKind _ _) ?my1 ?my2 ?my3 (intKind_is _ _ _ _) ?my4 ?_ ?my5 ?my6; (case my1 => k_asm); (case my2 => k_mem); (case my3 => assumption); (case my4 => assumption); (case my5 => with_unfolding_all rfl); (case my6 => intro _; with_unfolding_all rfl))) | (k_here; (with_reducible show wpAny _ _ (subscriptTail _ _ (Value.ref _) (Value.int _ _)) _ _ _); k_dflt (refine' item_lit ?my1 ?my2 ?my4 ?my5 ?my6 ?_ ?my3; (case my1 => k_asm); (case my2 => k_mem); (case my4 => decide); (case my5 => decide); (case my6 => rfl); (case my3 => with_unfolding_all rfl))) | ((with_reducible show wpAny _ _ (call (Value.builtin "sorted") _ _) _ _ _); (k_here; (with_reducible show wpAny _ _ (call (Value.builtin "sorted") [Value.ref _]) _ _ _); k_dflt (refine' sorted_dict ?my1 ?my2 ?my3 ?my4 ?my5 ?my6 ?my7 ?my8 ?_; (case my1 => exact rfl); (case my2 => k_asm); (case my3 => k_asm); (case my4 => k_mem); (case my5 => assumption); (case my6 => assumption); (case my7 => assumption); (case my8 => assumption)); intro D' vs' c' h' tk' F' N' l1 hI')) | ((with_reducible show wpAny _ _ (call (Value.builtin "bytes.join") _ _) _ _ _); (k_here; k_dflt (refine' join_K ?my1 ?my2 ?my3 ?my4 ?my5 ?my6 ?_; (case my1 => k_asm); (case my2 => k_asm); (case my3 => k_mem); (case my4 => assumption); (case my5 => assumption); (case my6 => assumption)); intro t9 tk9)) | walk1 | (dsimp only; walk1) | (leave1; walk_say "STEP leave1"; try dsimp only) | fail "no step"))); all_goals (try k_fold))
          by_cases h2 : rst e.two w2 = 0
          · ((k_dflt (refine' does_pure (fo_does _ _ _ _ _ _ ?z ?z2) ?k1 ?k2 ?k3 ?k4 ?k5 ?k6 ?k7 ?k8 ?_; (case z => assumption); (case z2 => assumption)); (walk_at "MY sides"); (intro v9 h9 tk9 P9 F9 N9; obtain ⟨t9, e9⟩ := P9; subst e9); (try k_fold)))
            ((repeat' ( (fail_if_success (with_reducible show wpAny _ _ (pyIter (Value.ref _)) _ _ _)); (fail_if_success (with_reducible show wpAny _ _ (exec (Stmt.While _ _ _ _) _) _ _ _)); (fail_if_success (with_reducible show wpAny _ _ (call (Value.ref 87) _) _ _ _)); (fail_if_success (with_reducible show wpAny _ _ (call (Value.ref 104) _) _ _ _)); (first | (k_unfold; (try dsimp only)) | (k_end; wrow_close) | ((with_reducible show wpAny _ _ (exec (Stmt.Raise _ _ _) _) _ _ _); (k_here; (refine raise_own rfl ?_))) | ((with_reducible show wpAny _ _ (call (Value.builtin "tuple.index") _ _) _ _ _); (k_here; k_dflt (refine' tidx_K ?my1 ?my2 ?my3 ?my4 ?_; (case my1 => k_asm); (case my2 => k_asm); (case my3 => k_is); (case my4 => first | assumption | exact .inl ⟨rfl, rfl⟩ | exact .inr (.inl ⟨rfl, rfl⟩) | exact .inr (.inr ⟨rfl, rfl⟩))); intro t9 tk9)) | (k_here; (with_reducible show wpAny _ _ (getMethod (Value.ref 90) _ _) _ _ _); k_dflt (refine' tidx_method ?my1 ?my2 ?my3 ?_; (case my1 => k_asm); (case my2 => k_asm); (case my3 => k_is))) | ((with_reducible show wpAny _ _ (getMethod (Value.bytes _ _) _ _) _ _ _); (k_here; (refine join_method ?_))) | (k_here; (with_reducible show wpAny _ _ (subscriptTail _ _ (Value.ref _) (Value.int (Ent.key _) _)) _ _ _); k_dflt (refine' kda_item (knd := PySem.intKind _ _) ?my1 ?my2 ?my3 (intKind_is _ _ _ _) ?my4 ?_ ?my5 ?my6; (case my1 => k_asm); (case my2 => k_mem); (case my3 => assumption); (case my4 => assumption); (case my5 => with_unfolding_all rfl); (case my6 => intro _; with_unfolding_all rfl))) | (k_here; (with_reducible show wpAny _ _ (subscriptTail _ _ (Value.ref _) (Value.int _ _)) _ _ _); k_dflt (refine' item_lit ?my1 ?my2 ?my4 ?my5 ?my6 ?_ ?my3; (case my1 => k_asm); (case my2 => k_mem); (case my4 => decide); (case my5 => decide); (case my6 => rfl); (case my3 => with_unfolding_all rfl))) | ((with_reducible show wpAny _ _ (call (Value.builtin "sorted") _ _) _ _ _); (k_here; (with_reducible show wpAny _ _ (call (Value.builtin "sorted") [Value.ref _]) _ _ _); k_dflt (refine' sorted_dict ?my1 ?my2 ?my3 ?my4 ?my5 ?my6 ?my7 ?my8 ?_; (case my1 => exact rfl); (case my2 => k_asm); (case my3 => k_asm); (case my4 => k_mem); (case my5 => assumption); (case my6 => assumption); (case my7 => assumption); (case my8 => assumption)); intro D' vs' c' h' tk' F' N' l1 hI')) | ((with_reducible show wpAny _ _ (call (Value.builtin "bytes.join") _ _) _ _ _); (k_here; k_dflt (refine' join_K ?my1 ?my2 ?my3 ?my4 ?my5 ?my6 ?_; (case my1 => k_asm); (case my2 => k_asm); (case my3 => k_mem); (case my4 => assumption); (case my5 => assumption); (case my6 => assumption)); intro t9 tk9)) | walk1 | (dsimp only; walk1) | (leave1; walk_say "STEP leave1"; try dsimp only) | fail "no step"))); all_goals (try k_fold))
            (rename Fr _ _ _ _ => lF')
            (rename News _ _ _ _ => lN')
            rw [List.push_toArray, List.push_toArray] at lN'
            exact hQT _ _ <| TurnEnd.next lF' lN' (fun p hp => by rw [List.mem_singleton.mp hp]; exact .tail _ (.head _)) (ho2 _) ⟨_, _, rfl, by simp; omega, fun j e hj he' => by simpa using good_next hG he (fun _ => hu) h1 h2 j e hj he', ⟨rfl, trivial⟩, fun z hx hz => by simp only [Off] at hz; simp [hx, hz]⟩
          · ((refine' fails_use (fo_fails _ _ _ _ _ _ ?z1 ?z2 ?z3 ?z4) ?k1 ?k2 ?k3 ?k4 ?k5 ?k6 ?k7 ?k8 ?_; (case z4 => assumption); (case z1 => assumption); (case z2 => assumption); (case z3 => assumption)); (walk_at "MY sides"))
            intro e9 h9 tk9 g9 R9 F9 U9
            exact leave_onN (by assumption) F9 (raised_sub R9 (by walk_at "MY sub")) U9 fun h8 R8 U8 => hexc _ _ _ _ R8 (by assumption) U8
        · ((refine' fails_use (fo_fails _ _ _ _ _ _ ?z1 ?z2 ?z3 ?z4) ?k1 ?k2 ?k3 ?k4 ?k5 ?k6 ?k7 ?k8 ?_; (case z4 => assumption); (case z1 => assumption); (case z2 => assumption); (case z3 => assumption)); (walk_at "MY sides"))
          intro e9 h9 tk9 g9 R9 F9 U9
          exact leave_onN (by assumption) F9 (raised_sub R9 (by walk_at "MY sub")) U9 fun h8 R8 U8 => hexc _ _ _ _ R8 (by assumption) U8
      · rcases hway with hw | hw | hw
        · rw [hw] at m2
          ((repeat' ( (fail_if_success (with_reducible show wpAny _ _ (pyIter (Value.ref _)) _ _ _)); (fail_if_success (with_reducible show wpAny _ _ (exec (Stmt.While _ _ _ _) _) _ _ _)); (fail_if_success (with_reducible show wpAny _ _ (call (Value.ref 87) _) _ _ _)); (fail_if_success (with_reducible show wpAny _ _ (call (Value.ref 104) _) _ _ _)); (first | (k_unfold; (try dsimp only)) | (k_end; wrow_close) | ((with_reducible show wpAny _ _ (exec (Stmt.Raise _ _ _) _) _ _ _); (k_here; (refine raise_own rfl ?_))) | ((with_reducible show wpAny _ _ (call (Value.builtin "tuple.index") _ _) _ _ _); (k_here; k_dflt (refine' tidx_K ?my1 ?my2 ?my3 ?my4 ?_; (case my1 => k_asm); (case my2 => k_asm); (case my3 => k_is); (case my4 => first | assumption | exact .inl ⟨rfl, rfl⟩ | exact .inr (.inl ⟨rfl, rfl⟩) | exact .inr (.inr ⟨rfl, rfl⟩))); intro t9 tk9)) | (k_here; (with_reducible show wpAny _ _ (getMethod (Value.ref 90) _ _) _ _ _); k_dflt (refine' tidx_method ?my1 ?my2 ?my3 ?_; (case my1 => k_asm); (case my2 => k_asm); (case my3 => k_is))) | ((with_reducible show wpAny _ _ (getMethod (Value.bytes _ _) _ _) _ _ _); (k_here; (refine join_method ?_))) | (k_here; (with_reducible show wpAny _ _ (subscriptTail _ _ (Value.ref _) (Value.int (Ent.key _) _)) _ _ _); k_dflt (refine' kda_item (knd := PySem.intKind _ _) ?my1 ?my2 ?my3 (intKind_is _ _ _ _) ?my4 ?_ ?my5 ?my6; (case my1 => k_asm); (case my2 => k_mem); (case my3 => assumption); (case my4 => assumption); (case my5 => with_unfolding_all rfl); (case my6 => intro _; with_unfolding_all rfl))) | (k_here; (with_reducible show wpAny _ _ (subscriptTail _ _ (Value.ref _) (Value.int _ _)) _ _ _); k_dflt (refine' item_lit ?my1 ?my2 ?my4 ?my5 ?my6 ?_ ?my3; (case my1 => k_asm); (case my2 => k_mem); (case my4 => decide); (case my5 => decide); (case my6 => rfl); (case my3 => with_unfolding_all rfl))) | ((with_reducible show wpAny _ _ (call (Value.builtin "sorted") _ _) _ _ _); (k_here; (with_reducible show wpAny _ _ (call (Value.builtin "sorted") [Value.ref _]) _ _ _); k_dflt (refine' sorted_dict ?my1 ?my2 ?my3 ?my4 ?my5 ?my6 ?my7 ?my8 ?_; (case my1 => exact rfl); (case my2 => k_asm); (case my3 => k_asm); (case my4 => k_mem); (case my5 => assumption); (case my6 => assumption); (case my7 => assumption); (case my8 => assumption)); intro D' vs' c' h' tk' F' N' l1 hI')) | ((with_reducible show wpAny _ _ (call (Value.builtin "bytes.join") _ _) _ _ _); (k_here; k_dflt (refine' join_K ?my1 ?my2 ?my3 ?my4 ?my5 ?my6 ?_; (case my1 => k_asm); (case my2 => k_asm); (case my3 => k_mem); (case my4 => assumption); (case my5 => assumption); (case my6 => assumption)); intro t9 tk9)) | walk1 | (dsimp only; walk1) | (leave1; walk_say "STEP leave1"; try dsimp only) | fail "no step"))); all_goals (try k_fold))
          ((refine' does_use (fault_does _ _ _ _) ?k1 ?k2 ?k3 ?k4 ?k5 ?k6 ?k7 ?k8 ?_; (walk_at "MY sides")))
          rintro v9 news9 h9 tk9 ⟨x9, t9, d9, extra9, rfl, rfl, hsub9, hne9⟩ F9 N9
          refine ⟨x9, _, _, rfl, (N9 _ (.head _)).1, rfl, rfl, rfl, Frag.In.keeps (by k_asm) F9.keep, ?_⟩
          refine leave_fault (news := news) (by assumption) F9 (news_sub N9 fun p hp => .tail _ (hsub9 p (by walk_at "MY in"))) (news_sub N9 fun p hp => by rw [List.mem_singleton.mp hp]; exact .head _) rfl rfl rfl rfl (fun p hp => hne9 p (hsub9 p (by walk_at "MY in"))) fun h8 R8 U8 => ?_
          exact hexc _ _ _ _ R8 (by assumption) U8
        · exact absurd hw hu
        · rw [hw] at m2
          ((repeat' ( (fail_if_success (with_reducible show wpAny _ _ (pyIter (Value.ref _)) _ _ _)); (fail_if_success (with_reducible show wpAny _ _ (exec (Stmt.While _ _ _ _) _) _ _ _)); (fail_if_success (with_reducible show wpAny _ _ (call (Value.ref 87) _) _ _ _)); (fail_if_success (with_reducible show wpAny _ _ (call (Value.ref 104) _) _ _ _)); (first | (k_unfold; (try dsimp only)) | (k_end; wrow_close) | ((with_reducible show wpAny _ _ (exec (Stmt.Raise _ _ _) _) _ _ _); (k_here; (refine raise_own rfl ?_))) | ((with_reducible show wpAny _ _ (call (Value.builtin "tuple.index") _ _) _ _ _); (k_here; k_dflt (refine' tidx_K ?my1 ?my2 ?my3 ?my4 ?_; (case my1 => k_asm); (case my2 => k_asm); (case my3 => k_is); (case my4 => first | assumption | exact .inl ⟨rfl, rfl⟩ | exact .inr (.inl ⟨rfl, rfl⟩) | exact .inr (.inr ⟨rfl, rfl⟩))); intro t9 tk9)) | (k_here; (with_reducible show wpAny _ _ (getMethod (Value.ref 90) _ _) _ _ _); k_dflt (refine' tidx_method ?my1 ?my2 ?my3 ?_; (case my1 => k_asm); (case my2 => k_asm); (case my3 => k_is))) | ((with_reducible show wpAny _ _ (getMethod (Value.bytes _ _) _ _) _ _ _); (k_here; (refine join_method ?_))) | (k_here; (with_reducible show wpAny _ _ (subscriptTail _ _ (Value.ref _) (Value.int (Ent.key _) _)) _ _ _); k_dflt (refine' kda_item (knd := PySem.intKind _ _) ?my1 ?my2 ?my3 (intKind_is _ _ _ _) ?my4 ?_ ?my5 ?my6; (case my1 => k_asm); (case my2 => k_mem); (case my3 => assumption); (case my4 => assumption); (case my5 => with_unfolding_all rfl); (case my6 => intro _; with_unfolding_all rfl))) | (k_here; (with_reducible show wpAny _ _ (subscriptTail _ _ (Value.ref _) (Value.int _ _)) _ _ _); k_dflt (refine' item_lit ?my1 ?my2 ?my4 ?my5 ?my6 ?_ ?my3; (case my1 => k_asm); (case my2 => k_mem); (case my4 => decide); (case my5 => decide); (case my6 => rfl); (case my3 => with_unfolding_all rfl))) | ((with_reducible show wpAny _ _ (call (Value.builtin "sorted") _ _) _ _ _); (k_here; (with_reducible show wpAny _ _ (call (Value.builtin "sorted") [Value.ref _]) _ _ _); k_dflt (refine' sorted_dict ?my1 ?my2 ?my3 ?my4 ?my5 ?my6 ?my7 ?my8 ?_; (case my1 => exact rfl); (case my2 => k_asm); (case my3 => k_asm); (case my4 => k_mem); (case my5 => assumption); (case my6 => assumption); (case my7 => assumption); (case my8 => assumption)); intro D' vs' c' h' tk' F' N' l1 hI')) | ((with_reducible show wpAny _ _ (call (Value.builtin "bytes.join") _ _) _ _ _); (k_here; k_dflt (refine' join_K ?my1 ?my2 ?my3 ?my4 ?my5 ?my6 ?_; (case my1 => k_asm); (case my2 => k_asm); (case my3 => k_mem); (case my4 => assumption); (case my5 => assumption); (case my6 => assumption)); intro t9 tk9)) | walk1 | (dsimp only; walk1) | (leave1; walk_say "STEP leave1"; try dsimp only) | fail "no step"))); all_goals (try k_fold))
          ((refine' does_use (fault_does _ _ _ _) ?k1 ?k2 ?k3 ?k4 ?k5 ?k6 ?k7 ?k8 ?_; (walk_at "MY sides")))
          rintro v9 news9 h9 tk9 ⟨x9, t9, d9, extra9, rfl, rfl, hsub9, hne9⟩ F9 N9
          refine ⟨x9, _, _, rfl, (N9 _ (.head _)).1, rfl, rfl, rfl, Frag.In.keeps (by k_asm) F9.keep, ?_⟩
          refine leave_fault (news := news) (by assumption) F9 (news_sub N9 fun p hp => .tail _ (hsub9 p (by walk_at "MY in"))) (news_sub N9 fun p hp => by rw [List.mem_singleton.mp hp]; exact .head _) rfl rfl rfl rfl (fun p hp => hne9 p (hsub9 p (by walk_at "MY in"))) fun h8 R8 U8 => ?_
          exact hexc _ _ _ _ R8 (by assumption) U8
  · rintro h tk m' _ ⟨its, ep, rfl, hB, hG, hL⟩ hmem2 F₁ N₁
    have hlen : vsS.toArray.size = es.length := by rw [List.size_toArray, hI.length, List.length_map, hT.ents.length]
    rw [hlen] at hG
    refine absurd (fun e he => ?_) hbad
    obtain ⟨j, hj⟩ := List.mem_iff_getElem?.mp he
    refine hG j e ?_ hj
    rcases Nat.lt_or_ge j es.length with h | h
    · exact h
    · rw [List.getElem?_eq_none h] at hj; cases hj
end
theorem rw_fails (w : World) (news : Led) (D : Addr) (oD : Obj) (kvs : List (Int × Value)) (es : List Ent) (hT : EntTab w news D oD kvs es) (hn : kvs.length ≤ 10) (hs : (kvs.map (·.1)).Pairwise (· < ·))
    (wd : Addr) (w0 w1 w2 : Nat) (t0 t1 t2 : Tok) (ep : Nat) (hw0 : w0 ≤ 10) (hw1 : w1 ≤ 10) (hw2 : w2 ≤ 10) (hW : (wd, W.listOf #[.int (w0 : Int) t0, .int (w1 : Int) t1, .int (w2 : Int) t2] ep) ∈ news)
    (hrg : ∀ e ∈ es, IsWay e.way ∧ 0 ≤ e.one ∧ e.one ≤ 100000000 ∧ 0 ≤ e.two ∧ e.two ≤ 100000000)
    (hbad : ¬ ∀ e ∈ es, (w0 = 0 → e.way = Str.ofString "used") ∧ rst e.one w1 = 0 ∧ rst e.two w2 = 0) :
    Fails w 139 30 1200 news [.ref D, .ref wd] := by
  intro mean mg mb dp un gd cn cs a ccd cl' outer A₀ base h₀ L m s Q E
  exact (Classical.byContradiction fun hn => @Classical.epsilon_spec _ (fun x : (World) × (Led) × (Addr) × (Obj) × (List (Int × Value)) × (List Ent) × (Addr) × (Tok) × (Tok) × (Tok) × (Nat) × (ExcName → Option Value) × (Str → Option Value) × (Str → Option Value) × (Nat) × (Nat) × (Option (List Code)) × (Str) × (Scope) × (Addr) × (Value) × (List (Str × Addr)) × (List Env) × (Around) × (Heap) × (Heap) × (Addr) × (Str → Option Value) × (Shared) × (Value → Shared → Prop) × (Value → Shared → Prop) => ¬ Zrw_fails.G (x.1) (x.2.1) (x.2.2.1) (x.2.2.2.1) (x.2.2.2.2.1) (x.2.2.2.2.2.1) (x.2.2.2.2.2.2.1) (x.2.2.2.2.2.2.2.1) (x.2.2.2.2.2.2.2.2.1) (x.2.2.2.2.2.2.2.2.2.1) (x.2.2.2.2.2.2.2.2.2.2.1) (x.2.2.2.2.2.2.2.2.2.2.2.1) (x.2.2.2.2.2.2.2.2.2.2.2.2.1) (x.2.2.2.2.2.2.2.2.2.2.2.2.2.1) (x.2.2.2.2.2.2.2.2.2.2.2.2.2.2.1) (x.2.2.2.2.2.2.2.2.2.2.2.2.2.2.2.1) (x.2.2.2.2.2.2.2.2.2.2.2.2.2.2.2.2.1) (x.2.2.2.2.2.2.2.2.2.2.2.2.2.2.2.2.2.1) (x.2.2.2.2.2.2.2.2.2.2.2.2.2.2.2.2.2.2.1) (x.2.2.2.2.2.2.2.2.2.2.2.2.2.2.2.2.2.2.2.1) (x.2.2.2.2.2.2.2.2.2.2.2.2.2.2.2.2.2.2.2.2.1) (x.2.2.2.2.2.2.2.2.2.2.2.2.2.2.2.2.2.2.2.2.2.1) (x.2.2.2.2.2.2.2.2.2.2.2.2.2.2.2.2.2.2.2.2.2.2.1) (x.2.2.2.2.2.2.2.2.2.2.2.2.2.2.2.2.2.2.2.2.2.2.2.1) (x.2.2.2.2.2.2.2.2.2.2.2.2.2.2.2.2.2.2.2.2.2.2.2.2.1) (x.2.2.2.2.2.2.2.2.2.2.2.2.2.2.2.2.2.2.2.2.2.2.2.2.2.1) (x.2.2.2.2.2.2.2.2.2.2.2.2.2.2.2.2.2.2.2.2.2.2.2.2.2.2.1) (x.2.2.2.2.2.2.2.2.2.2.2.2.2.2.2.2.2.2.2.2.2.2.2.2.2.2.2.1) (x.2.2.2.2.2.2.2.2.2.2.2.2.2.2.2.2.2.2.2.2.2.2.2.2.2.2.2.2.1) (x.2.2.2.2.2.2.2.2.2.2.2.2.2.2.2.2.2.2.2.2.2.2.2.2.2.2.2.2.2.1) (x.2.2.2.2.2.2.2.2.2.2.2.2.2.2.2.2.2.2.2.2.2.2.2.2.2.2.2.2.2.2)) ⟨(w, news, D, oD, kvs, es, wd, t0, t1, t2, ep, mean, mg, mb, dp, un, gd, cn, cs, a, ccd, cl', outer, A₀, base, h₀, L, m, s, Q, E), hn⟩ Zrw_fails.main) w0 w1 w2 hT hn hs hw0 hw1 hw2 hW hrg hbad
end Mine
end
section
theorem Mine.offT14 : True := by w_top off; trivial
namespace Mine
section
variable {prog : Program} {w : World} {A A₀ : Around} {s : Shared} {K : Frag} {L : Addr} {h₀ : Heap} {m mg mb : Str → Option Value} {news : Led} {p : Program} {loose : List Str} {mean : ExcName → Option Value}
theorem code_catch {env : Env} {R : Result → Shared → Prop} {name qual : Str} {params : Arguments} {body : List Stmt} {scope : Scope} {dV kV doc pm cdv ct oc : Value} {an od : Option Addr} {osl : Array (Option Value)} {f : Addr} {args : Args} {binds : List (Str × Value)}
    (B : Below A₀ h₀ [] h₀) (F : Fr h₀ L s.heap m) (X₀ : K.In h₀) (N : News h₀ L s.heap news) (T : Top p loose mean mg mb h₀) (hA : A.frames = some (env :: [])) (hf : env.frame = some L) (hke : env.scope.kind = .function)
    (ho : K.lookup f = some ⟨oc, od, .func (fnOf name qual params body scope dV kV doc pm an cdv ct), osl⟩) (hcd : codeIn K cdv qual = true) (hroom : A.depth < recursionLimit)
    (hbind : BindsTo s (fnOf name qual params body scope dV kV doc pm an cdv ct) args binds) (hloc : ∀ y ∈ binds, scope.names.lookup y.1 = some .local)
    (h : ∀ g L' h₁, Fr h₀ L g m → Fr g L' h₁ (fun y => binds.reverse.lookup y) → News g L' h₁ news → Below A h₀ (env :: []) g → K.In g → Top p loose mean mg mb g →
      wpAny (model prog w) (A.deeper (envOf qual scope L' f cdv)) (execs body (envOf qual scope L' f cdv))
        (fun fl s' => R (.ok (.ret (match fl with | .ret v => v | _ => .none))) s')
        (fun e s' => wpAny (model prog w) (A.deeper (envOf qual scope L' f cdv)) (leaving (envOf qual scope L' f cdv) e) (fun _ s'' => R (.error e) s'') (fun e' s'' => R (.error e') s'') s')
        { s with heap := h₁, toks := s.toks + binds.length })
    (hco : scope.isCoroutine = false) (hgen : scope.isGenerator = false) (hk : scope.kind = .function)
    (hcell : ∀ x ∈ scope.names, x.2 ≠ .cell) : codeAny (model prog w) A (.call (.ref f) args) R s := by
  obtain ⟨FG, BG, st, lv⟩ := groundX (R := R) B F N hA hf hke
  refine codeAny_call_def (fd := fnOf name qual params body scope dV kV doc pm an cdv ct) (body := body) (binds := binds) hroom ((X₀.keeps F.keep) _ _ ho) rfl (T.nolimit.keeps F.keep) (codeRec_of (X₀.keeps F.keep) hcd) rfl hbind hcell hloc (fun h₁ hns hk₁ => ?_) hco hgen hk
  exact h _ s.heap.objs.size h₁ FG ⟨hns, fun b o e => hk₁ b o (of_hideAll _ e), Nat.le_of_eq (hideAll_size _ _)⟩
    (fun p hp => ⟨hk₁ _ _ (N p hp).1, Nat.ne_of_lt (Heap.lt_size (N p hp).1), hideAll_none _ (List.mem_map_of_mem hp)⟩) BG (X₀.keeps st) (T.keeps st)
end
/-- a call from the law itself: no frame below its caller -/
noncomputable def DoesTop (w : World) (f : Addr) (D U : Nat) (news : Led) (vs : List Value) (post : Value → Led → Prop) : Prop :=
  ∀ (mean : ExcName → Option Value) (mg mb : Str → Option Value) (dp un : Nat) (gd : Option (List Code)) (cn : Str) (cs : Scope) (a : Addr) (ccd : Value) (cl : List (Str × Addr))
    (A₀ : Around) (h₀ : Heap) (L : Addr) (m : Str → Option Value) (s : Shared) (Q E : Value → Shared → Prop),
    Below A₀ h₀ [] h₀ → Fr h₀ L s.heap m → (hd.heap_1 w.params).In h₀ → News h₀ L s.heap news →
    Top hview (looseW hview [Str.ofString "PaperError"]) mean mg mb h₀ → cs.kind = .function →
    dp + D < recursionLimit → un + U < cLine →
    (∀ v news' h' tk', post v news' → Fr h₀ L h' m → News h₀ L h' news' → Q v { s with heap := h', toks := tk' }) →
    wpAny (model PySem.Challenge.rw_og0136_01.row.prog w) (ktrTop dp un gd cn cs L a ccd cl []) (call (.ref f) vs) Q E s
set_option maxHeartbeats 8000000 in
theorem ir_does (w : World) (news : Led) (D : Addr) (oD : Obj) (kvs : List (Int × Value)) (es : List Ent) (hT : EntTab w news D oD kvs es) (hn : kvs.length ≤ 10) (hs : (kvs.map (·.1)).Pairwise (· < ·))
    (wd : Addr) (w0 w1 w2 : Nat) (t0 t1 t2 : Tok) (ep : Nat) (hw0 : w0 ≤ 10) (hw1 : w1 ≤ 10) (hw2 : w2 ≤ 10) (hW : (wd, W.listOf #[.int (w0 : Int) t0, .int (w1 : Int) t1, .int (w2 : Int) t2] ep) ∈ news)
    (hrg : ∀ e ∈ es, IsWay e.way ∧ 0 ≤ e.one ∧ e.one ≤ 100000000 ∧ 0 ≤ e.two ∧ e.two ≤ 100000000)
    (hbad : ¬ ∀ e ∈ es, (w0 = 0 → e.way = Str.ofString "used") ∧ rst e.one w1 = 0 ∧ rst e.two w2 = 0) :
    DoesTop w 165 40 1600 news [.ref D, .ref wd] (fun v news' => v = .bool true ∧ news' = news) := by
  unfold DoesTop
  k_fill
  intro mean mg mb dp un gd cn cs a ccd cl' A₀ h₀ L m s Q E B F X N T hk hdp hun hret
  refine wpAny_call ?_
  k_dflt ((refine' code_catch ?k1 ?k2 ?k3 ?k4 ?k5 ?kA ?kF ?kK ?k6 ?k7 ?k8 ?k9 ?kB ?_ ?c2 ?c3 ?c4 ?c5; (case kA => exact rfl); (case kF => exact rfl); (case kK => assumption); (case k1 => k_asm); (case k2 => k_asm); (case k3 => k_asm); (case k4 => k_asm); (case k5 => k_asm); (case k6 => k_is); (case k7 => k_is); (case k8 => ktr_room); (case k9 => exact BindsTo.of_eq rfl); (case c5 => decide); (case kB => exact locs rfl); (case c2 => exact rfl); (case c3 => exact rfl); (case c4 => exact rfl); k_whole; intro g' L' h' FG' F' N' B' X' T'; (try dsimp only); (try k_lift B'); (try k_fold)))
  ((repeat' ( (fail_if_success (with_reducible show wpAny _ _ (pyIter (Value.ref _)) _ _ _)); (fail_if_success (with_reducible show wpAny _ _ (call (Value.ref 139) _) _ _ _)); (first | (k_unfold; (try dsimp only)) | (k_end; wrow_close) | walk1 | (dsimp only; walk1) | (leave1; walk_say "STEP leave1"; try dsimp only) | fail "no step"))); all_goals (try k_fold))
  refine' fails_use (rw_fails w _ D oD kvs es hT hn hs wd w0 w1 w2 t0 t1 t2 ep hw0 hw1 hw2 hW hrg hbad) ?k1 ?k2 ?k3 ?k4 ?k5 ?k6 ?k7 ?k8 ?_
  walk_at "MY sides"
  intro e9 h9 tk9 g9 R9 F9 U9
  (rename Fr h₀ L _ m => FG)
  have FB : Fr h₀ _ g9 _ := ⟨F9.ns, fun b o e => F9.keep b o (FG.keep b o e), Nat.le_trans FG.above (Nat.le_trans (Nat.le_of_lt FG.ns.lt) F9.above)⟩
  refine caught_fault (hE := ?hE) rfl FB U9 R9 X (topRead_of T) (by kernel_rfl) ?_
  case hE => with_unfolding_all passes_own
  intro h8 F8 N8 U8
  have F7 : Fr h₀ L h8 m := FG.of_stays F8.keep ((Heap.UpToSlots.of_keeps F9.keep).trans U8)
  have N7 : News h₀ L h8 news := fun p hp => ⟨(N8 p hp).1, (N p hp).2⟩
  clear F9 FB R9 U9 FG
  try k_fold
  ((repeat' ( (fail_if_success (with_reducible show wpAny _ _ (pyIter (Value.ref _)) _ _ _)); (fail_if_success (with_reducible show wpAny _ _ (call (Value.ref 139) _) _ _ _)); (first | (k_unfold; (try dsimp only)) | (k_end; wrow_close) | walk1 | (dsimp only; walk1) | (leave1; walk_say "STEP leave1"; try dsimp only) | fail "no step"))); all_goals (try k_fold))
  exact hret _ _ _ _ ⟨rfl, rfl⟩ F7 N7
end Mine
end
section
theorem Mine.offT4 : True := by w_top off; trivial
namespace Mine
noncomputable def fval (b : List UInt8) : Int := b.foldl (fun t c => 256 * t + (c.toNat : Int)) 0
theorem fval_take (b : Array UInt8) (i : Nat) (c : UInt8) (h : b[i]? = some c) : fval (b.toList.take (i + 1)) = 256 * fval (b.toList.take i) + (c.toNat : Int) := by
  have h' : b.toList[i]? = some c := by simpa using h
  unfold fval
  rw [List.take_add_one, h']
  simp
set_option maxHeartbeats 8000000 in
theorem field_does (w : World) (news : Led) (b : Array UInt8) (tb : Tok) (hb : b.size ≤ 100) :
    Does w 97 10 200 news [.bytes b tb] (fun v news' => (∃ t, v = .int (fval b.toList) t) ∧ news' = news) := by
  unfold Does
  k_fill
  intro mean mg mb dp un gd cn cs a ccd cl' outer A₀ base h₀ L m s Q E B F X N T hk hdp hun hret
  refine wpAny_call ?_
  k_dflt cell_enter
  k_steps
  (rename Fr _ _ _ _ => lF')
  (rename News _ _ _ _ => lN')
  refine iter_bytes (fun m₀ i m₁ l => l = news ∧ (∃ t, m₁ (Str.ofString "total") = some (.int (fval (b.toList.take i)) t)) ∧ ∀ y, y ≠ Str.ofString "code" → y ≠ Str.ofString "total" → m₁ y = m₀ y) rfl lF' lN' ⟨rfl, ⟨_, rfl⟩, fun _ _ _ => rfl⟩ ?_ ?_
  · rintro i c t m₁ _ I oI h tk QT hQT hc ⟨rfl, ⟨tt, ht⟩, hm⟩ ho F₁ N₁
    have F₂ := fr1 F₁ ht hm
    clear F₁ lF' lN'
    try k_fold
    k_steps
    (rename Fr _ _ _ _ => lF')
    (rename News _ _ _ _ => lN')
    exact hQT _ _ <| TurnEnd.next lF' lN' (fun _ h => nomatch h) ho ⟨rfl, ⟨_, by rw [fval_take _ _ _ hc]; rfl⟩, fun y h1 h2 => by simp [h1, h2]⟩
  · rintro h tk m' _ ⟨rfl, ⟨tt, ht⟩, hm⟩ F₁ N₁
    have F₂ := fro1 F₁ ht hm
    clear lF' lN' F₁
    try k_fold
    k_steps
    exact hret _ _ _ _ ⟨⟨tt, by rw [← Array.length_toList, List.take_length]⟩, rfl⟩ (by k_asm) (by k_asm)
end Mine
end
section
namespace Mine
theorem fold_from (l : List UInt8) : ∀ acc : Int, l.foldl (fun t c => 256 * t + (c.toNat : Int)) acc = acc * 256 ^ l.length + fval l := by
  induction l with
  | nil => intro acc; simp [fval]
  | cons c l ih =>
    intro acc
    have h2 : fval (c :: l) = (256 * 0 + (c.toNat : Int)) * 256 ^ l.length + fval l := by
      show List.foldl _ _ l = _
      rw [ih]
    rw [List.foldl_cons, ih, h2, List.length_cons, Int.pow_succ]
    simp only [Int.mul_zero, Int.zero_add]
    rw [Int.add_mul, ← Int.add_assoc]
    congr 2
    rw [Int.mul_comm 256 acc, Int.mul_assoc, Int.mul_comm 256 (256 ^ l.length)]
theorem fval_cons (c : UInt8) (l : List UInt8) : fval (c :: l) = (c.toNat : Int) * 256 ^ l.length + fval l := by
  have h := fold_from l (256 * 0 + (c.toNat : Int))
  show List.foldl _ _ l = _
  rw [h]; simp
theorem octs_toList (n : Int) (i : Nat) : (octs n i).toList = (low n i).reverse.map fun k => k.toNat.toUInt8 := by
  unfold octs byteArr; simp
theorem octs_succ (n : Int) (i : Nat) : (octs n (i + 1)).toList = ((rst n i).fmod 256).toNat.toUInt8 :: (octs n i).toList := by
  rw [octs_toList, octs_toList]
  simp [low]
theorem fval_octs (n : Int) : ∀ i : Nat, fval (octs n i).toList = n - rst n i * 256 ^ i
  | 0 => by simp [octs_toList, low, fval, rst]
  | i + 1 => by
    have hr : 0 ≤ (rst n i).fmod 256 ∧ (rst n i).fmod 256 < 256 := ⟨Int.fmod_nonneg_of_pos _ (by decide), Int.fmod_lt_of_pos _ (by decide)⟩
    have hl : (octs n i).toList.length = i := by rw [Array.length_toList, octs_size]
    rw [octs_succ, fval_cons, hl, fval_octs n i, byte_back hr.1 hr.2]
    have e : (rst n i).fmod 256 = rst n i - 256 * rst n (i + 1) := by
      show _ = rst n i - 256 * (rst n i).fdiv 256
      rw [Int.fmod_def]
    rw [e, Int.sub_mul, Int.pow_succ]
    rw [Int.mul_comm 256 (rst n (i + 1)), Int.mul_assoc, Int.mul_comm 256 (256 ^ i)]
    omega
theorem fval_back {n : Int} {i : Nat} (h : rst n i = 0) : fval (octs n i).toList = n := by rw [fval_octs, h]; simp
/-- the octets of a row -/
noncomputable def rowB (w0 w1 w2 : Nat) (e : Ent) : List UInt8 := (octs (wayIx e.way) w0).toList ++ ((octs e.one w1).toList ++ (octs e.two w2).toList)
theorem rowB_eq (w0 w1 w2 : Nat) (e : Ent) : ((rowParts w0 w1 w2 e).map Array.toList).flatten = rowB w0 w1 w2 e := by
  unfold rowParts rowB
  split
  · simp
  · have h : w0 = 0 := by omega
    subst h
    simp [octs_toList, low]
theorem rowB_len (w0 w1 w2 : Nat) (e : Ent) : (rowB w0 w1 w2 e).length = w0 + w1 + w2 := by rw [← rowB_eq, rowParts_bytes]
theorem rowsB_at (w0 w1 w2 : Nat) : ∀ (es : List Ent) (j : Nat) (e : Ent), es[j]? = some e → ((rowsB w0 w1 w2 es).drop (j * (w0 + w1 + w2))).take (w0 + w1 + w2) = rowB w0 w1 w2 e
  | [], j, e, h => by simp at h
  | x :: es, 0, e, h => by
    simp at h; subst h
    rw [rowsB_cons, rowB_eq, Nat.zero_mul, List.drop_zero, List.take_append_of_le_length (by rw [rowB_len]; exact Nat.le_refl _), List.take_of_length_le (by rw [rowB_len]; exact Nat.le_refl _)]
  | x :: es, j + 1, e, h => by
    have h' : es[j]? = some e := by simpa using h
    rw [rowsB_cons, rowB_eq, ← rowsB_at w0 w1 w2 es j e h', Nat.succ_mul, Nat.add_comm (j * _), ← List.drop_drop, List.drop_append_of_le_length (by rw [rowB_len]; exact Nat.le_refl _), List.drop_of_length_le (l := rowB w0 w1 w2 x) (by rw [rowB_len]; exact Nat.le_refl _), List.nil_append]
section
variable {w0 w1 w2 : Nat} {e : Ent} {b : Array UInt8}
theorem row_way (hb : b.toList = rowB w0 w1 w2 e) (h : rst (wayIx e.way) w0 = 0) : fval (KBy.picked b none (some (w0 : Int))).toList = wayIx e.way := by
  rw [picked_to, hb]
  have hl : (octs (wayIx e.way) w0).toList.length = w0 := by rw [Array.length_toList, octs_size]
  show fval (List.take w0 (rowB w0 w1 w2 e)) = _
  unfold rowB
  rw [List.take_append_of_le_length (by omega), List.take_of_length_le (by omega), fval_back h]
theorem row_one (hb : b.toList = rowB w0 w1 w2 e) (h : rst e.one w1 = 0) : fval (KBy.picked b (some (w0 : Int)) (some ((w0 : Int) + (w1 : Int)))).toList = e.one := by
  have e1 : (w0 : Int) + (w1 : Int) = ((w0 + w1 : Nat) : Int) := by push_cast; rfl
  rw [e1, picked_mid, hb]
  have hl : (octs (wayIx e.way) w0).toList.length = w0 := by rw [Array.length_toList, octs_size]
  have hl1 : (octs e.one w1).toList.length = w1 := by rw [Array.length_toList, octs_size]
  show fval (List.take (w0 + w1 - w0) (List.drop w0 (rowB w0 w1 w2 e))) = _
  unfold rowB
  rw [List.drop_append_of_le_length (by omega), List.drop_of_length_le (l := (octs (wayIx e.way) w0).toList) (by omega), List.nil_append, show w0 + w1 - w0 = w1 by omega, List.take_append_of_le_length (by omega), List.take_of_length_le (by omega), fval_back h]
theorem row_two (hb : b.toList = rowB w0 w1 w2 e) (h : rst e.two w2 = 0) : fval (KBy.picked b (some ((w0 : Int) + (w1 : Int))) none).toList = e.two := by
  have e1 : (w0 : Int) + (w1 : Int) = ((w0 + w1 : Nat) : Int) := by push_cast; rfl
  rw [e1, picked_from, hb]
  have hl : (octs (wayIx e.way) w0).toList.length = w0 := by rw [Array.length_toList, octs_size]
  have hl1 : (octs e.one w1).toList.length = w1 := by rw [Array.length_toList, octs_size]
  show fval (List.drop (w0 + w1) (rowB w0 w1 w2 e)) = _
  unfold rowB
  rw [← List.append_assoc, List.drop_append_of_le_length (by rw [List.length_append]; omega), List.drop_of_length_le (by rw [List.length_append]; omega), List.nil_append, fval_back h]
end
end Mine
end
section
theorem Mine.offT7 : True := by w_top off; trivial
namespace Mine
noncomputable def Zre_does.G (w : World) (news : Led) (b : Array UInt8) (tb : Tok) (wd : Addr) (t0 : Tok) (t1 : Tok) (t2 : Tok) (ep : Nat) (one : Int) (two : Int) (mean : ExcName → Option Value) (mg : Str → Option Value) (mb : Str → Option Value) (dp : Nat) (un : Nat) (gd : Option (List Code)) (cn : Str) (cs : Scope) (a : Addr) (ccd : Value) (cl' : List (Str × Addr)) (outer : List Env) (A₀ : Around) (base : Heap) (h₀ : Heap) (L : Addr) (m : Str → Option Value) (s : Shared) (Q : Value → Shared → Prop) (E : Value → Shared → Prop) : Prop :=
  ∀ (w0 : Nat), ∀ (w1 : Nat), ∀ (w2 : Nat), ∀ (k : Nat), ∀ (hb : b.size ≤ 40), ∀ (h0 : w0 ≤ 10), ∀ (h1 : w1 ≤ 10), ∀ (hk3 : k < 3), ∀ (hW : (wd, W.listOf #[.int (w0 : Int) t0, .int (w1 : Int) t1, .int (w2 : Int) t2] ep) ∈ news), ∀ (hz : w0 = 0 → k = 1), ∀ (hp : 0 < w0 → fval (KBy.picked b none (some (w0 : Int))).toList = (k : Int)), ∀ (hone : fval (KBy.picked b (some (w0 : Int)) (some ((w0 : Int) + (w1 : Int)))).toList = one), ∀ (htwo : fval (KBy.picked b (some ((w0 : Int) + (w1 : Int))) none).toList = two), DoesB w 125 20 600 news [.bytes b tb, .ref wd] (MadeEnt w (wayS k) one two news) mean mg mb dp un gd cn cs a ccd cl' outer A₀ base h₀ L m s Q E
noncomputable def Zre_does.c : (World) × (Led) × (Array UInt8) × (Tok) × (Addr) × (Tok) × (Tok) × (Tok) × (Nat) × (Int) × (Int) × (ExcName → Option Value) × (Str → Option Value) × (Str → Option Value) × (Nat) × (Nat) × (Option (List Code)) × (Str) × (Scope) × (Addr) × (Value) × (List (Str × Addr)) × (List Env) × (Around) × (Heap) × (Heap) × (Addr) × (Str → Option Value) × (Shared) × (Value → Shared → Prop) × (Value → Shared → Prop) :=
  @Classical.epsilon _ ⟨((aWorld 0 : World), (default : Led), (default : Array UInt8), (default : Tok), (default : Addr), (default : Tok), (default : Tok), (default : Tok), (default : Nat), (default : Int), (default : Int), (fun _ => none : ExcName → Option Value), (fun _ => none : Str → Option Value), (fun _ => none : Str → Option Value), (default : Nat), (default : Nat), (default : Option (List Code)), (default : Str), (default : Scope), (default : Addr), (default : Value), (default : List (Str × Addr)), (default : List Env), (callerA : Around), (default : Heap), (default : Heap), (default : Addr), (fun _ => none : Str → Option Value), ({} : Shared), (fun _ _ => True : Value → Shared → Prop), (fun _ _ => True : Value → Shared → Prop))⟩ fun x => ¬ Zre_does.G (x.1) (x.2.1) (x.2.2.1) (x.2.2.2.1) (x.2.2.2.2.1) (x.2.2.2.2.2.1) (x.2.2.2.2.2.2.1) (x.2.2.2.2.2.2.2.1) (x.2.2.2.2.2.2.2.2.1) (x.2.2.2.2.2.2.2.2.2.1) (x.2.2.2.2.2.2.2.2.2.2.1) (x.2.2.2.2.2.2.2.2.2.2.2.1) (x.2.2.2.2.2.2.2.2.2.2.2.2.1) (x.2.2.2.2.2.2.2.2.2.2.2.2.2.1) (x.2.2.2.2.2.2.2.2.2.2.2.2.2.2.1) (x.2.2.2.2.2.2.2.2.2.2.2.2.2.2.2.1) (x.2.2.2.2.2.2.2.2.2.2.2.2.2.2.2.2.1) (x.2.2.2.2.2.2.2.2.2.2.2.2.2.2.2.2.2.1) (x.2.2.2.2.2.2.2.2.2.2.2.2.2.2.2.2.2.2.1) (x.2.2.2.2.2.2.2.2.2.2.2.2.2.2.2.2.2.2.2.1) (x.2.2.2.2.2.2.2.2.2.2.2.2.2.2.2.2.2.2.2.2.1) (x.2.2.2.2.2.2.2.2.2.2.2.2.2.2.2.2.2.2.2.2.2.1) (x.2.2.2.2.2.2.2.2.2.2.2.2.2.2.2.2.2.2.2.2.2.2.1) (x.2.2.2.2.2.2.2.2.2.2.2.2.2.2.2.2.2.2.2.2.2.2.2.1) (x.2.2.2.2.2.2.2.2.2.2.2.2.2.2.2.2.2.2.2.2.2.2.2.2.1) (x.2.2.2.2.2.2.2.2.2.2.2.2.2.2.2.2.2.2.2.2.2.2.2.2.2.1) (x.2.2.2.2.2.2.2.2.2.2.2.2.2.2.2.2.2.2.2.2.2.2.2.2.2.2.1) (x.2.2.2.2.2.2.2.2.2.2.2.2.2.2.2.2.2.2.2.2.2.2.2.2.2.2.2.1) (x.2.2.2.2.2.2.2.2.2.2.2.2.2.2.2.2.2.2.2.2.2.2.2.2.2.2.2.2.1) (x.2.2.2.2.2.2.2.2.2.2.2.2.2.2.2.2.2.2.2.2.2.2.2.2.2.2.2.2.2.1) (x.2.2.2.2.2.2.2.2.2.2.2.2.2.2.2.2.2.2.2.2.2.2.2.2.2.2.2.2.2.2)
noncomputable def Zre_does.V.w : World := Zre_does.c.1
noncomputable def Zre_does.V.news : Led := Zre_does.c.2.1
noncomputable def Zre_does.V.b : Array UInt8 := Zre_does.c.2.2.1
noncomputable def Zre_does.V.tb : Tok := Zre_does.c.2.2.2.1
noncomputable def Zre_does.V.wd : Addr := Zre_does.c.2.2.2.2.1
noncomputable def Zre_does.V.t0 : Tok := Zre_does.c.2.2.2.2.2.1
noncomputable def Zre_does.V.t1 : Tok := Zre_does.c.2.2.2.2.2.2.1
noncomputable def Zre_does.V.t2 : Tok := Zre_does.c.2.2.2.2.2.2.2.1
noncomputable def Zre_does.V.ep : Nat := Zre_does.c.2.2.2.2.2.2.2.2.1
noncomputable def Zre_does.V.one : Int := Zre_does.c.2.2.2.2.2.2.2.2.2.1
noncomputable def Zre_does.V.two : Int := Zre_does.c.2.2.2.2.2.2.2.2.2.2.1
noncomputable def Zre_does.V.mean : ExcName → Option Value := Zre_does.c.2.2.2.2.2.2.2.2.2.2.2.1
noncomputable def Zre_does.V.mg : Str → Option Value := Zre_does.c.2.2.2.2.2.2.2.2.2.2.2.2.1
noncomputable def Zre_does.V.mb : Str → Option Value := Zre_does.c.2.2.2.2.2.2.2.2.2.2.2.2.2.1
noncomputable def Zre_does.V.dp : Nat := Zre_does.c.2.2.2.2.2.2.2.2.2.2.2.2.2.2.1
noncomputable def Zre_does.V.un : Nat := Zre_does.c.2.2.2.2.2.2.2.2.2.2.2.2.2.2.2.1
noncomputable def Zre_does.V.gd : Option (List Code) := Zre_does.c.2.2.2.2.2.2.2.2.2.2.2.2.2.2.2.2.1
noncomputable def Zre_does.V.cn : Str := Zre_does.c.2.2.2.2.2.2.2.2.2.2.2.2.2.2.2.2.2.1
noncomputable def Zre_does.V.cs : Scope := Zre_does.c.2.2.2.2.2.2.2.2.2.2.2.2.2.2.2.2.2.2.1
noncomputable def Zre_does.V.a : Addr := Zre_does.c.2.2.2.2.2.2.2.2.2.2.2.2.2.2.2.2.2.2.2.1
noncomputable def Zre_does.V.ccd : Value := Zre_does.c.2.2.2.2.2.2.2.2.2.2.2.2.2.2.2.2.2.2.2.2.1
noncomputable def Zre_does.V.cl' : List (Str × Addr) := Zre_does.c.2.2.2.2.2.2.2.2.2.2.2.2.2.2.2.2.2.2.2.2.2.1
noncomputable def Zre_does.V.outer : List Env := Zre_does.c.2.2.2.2.2.2.2.2.2.2.2.2.2.2.2.2.2.2.2.2.2.2.1
noncomputable def Zre_does.V.A₀ : Around := Zre_does.c.2.2.2.2.2.2.2.2.2.2.2.2.2.2.2.2.2.2.2.2.2.2.2.1
noncomputable def Zre_does.V.base : Heap := Zre_does.c.2.2.2.2.2.2.2.2.2.2.2.2.2.2.2.2.2.2.2.2.2.2.2.2.1
noncomputable def Zre_does.V.h₀ : Heap := Zre_does.c.2.2.2.2.2.2.2.2.2.2.2.2.2.2.2.2.2.2.2.2.2.2.2.2.2.1
noncomputable def Zre_does.V.L : Addr := Zre_does.c.2.2.2.2.2.2.2.2.2.2.2.2.2.2.2.2.2.2.2.2.2.2.2.2.2.2.1
noncomputable def Zre_does.V.m : Str → Option Value := Zre_does.c.2.2.2.2.2.2.2.2.2.2.2.2.2.2.2.2.2.2.2.2.2.2.2.2.2.2.2.1
noncomputable def Zre_does.V.s : Shared := Zre_does.c.2.2.2.2.2.2.2.2.2.2.2.2.2.2.2.2.2.2.2.2.2.2.2.2.2.2.2.2.1
noncomputable def Zre_does.V.Q : Value → Shared → Prop := Zre_does.c.2.2.2.2.2.2.2.2.2.2.2.2.2.2.2.2.2.2.2.2.2.2.2.2.2.2.2.2.2.1
noncomputable def Zre_does.V.E : Value → Shared → Prop := Zre_does.c.2.2.2.2.2.2.2.2.2.2.2.2.2.2.2.2.2.2.2.2.2.2.2.2.2.2.2.2.2.2
section
open Zre_does.V
set_option maxHeartbeats 8000000 in
theorem Zre_does.main : Zre_does.G Zre_does.V.w Zre_does.V.news Zre_does.V.b Zre_does.V.tb Zre_does.V.wd Zre_does.V.t0 Zre_does.V.t1 Zre_does.V.t2 Zre_does.V.ep Zre_does.V.one Zre_does.V.two Zre_does.V.mean Zre_does.V.mg Zre_does.V.mb Zre_does.V.dp Zre_does.V.un Zre_does.V.gd Zre_does.V.cn Zre_does.V.cs Zre_does.V.a Zre_does.V.ccd Zre_does.V.cl' Zre_does.V.outer Zre_does.V.A₀ Zre_does.V.base Zre_does.V.h₀ Zre_does.V.L Zre_does.V.m Zre_does.V.s Zre_does.V.Q Zre_does.V.E := by
  unfold Zre_does.G DoesB
  k_fill
  intro w0 w1 w2 k hb h0 h1 hk3 hW hz hp hone htwo B F X N T hk hdp hun hret
  have hb2 : b.size ≤ 1000 := by omega
  have hb3 : b.size ≤ 100 := by omega
  have hc : w0 = 0 ∧ k = 1 ∨ 0 < w0 ∧ k = 0 ∨ 0 < w0 ∧ k = 1 ∨ 0 < w0 ∧ k = 2 := by omega
  refine wpAny_call ?_
  k_dflt cell_enter
  rcases hc with ⟨hw0, rfl⟩ | ⟨hw0, rfl⟩ | ⟨hw0, rfl⟩ | ⟨hw0, rfl⟩
  · subst hw0
    ((repeat' ( (fail_if_success (with_reducible show wpAny _ _ (pyIter (Value.ref _)) _ _ _)); (fail_if_success (with_reducible show wpAny _ _ (exec (Stmt.While _ _ _ _) _) _ _ _)); (first | (k_unfold; (try dsimp only)) | (k_end; wrow_close) | (k_here; (with_reducible show wpAny _ _ (call (Value.ref 97) [Value.bytes _ _]) _ _ _); k_dflt (refine' does_pure (field_does _ _ _ _ ?z) ?k1 ?k2 ?k3 ?k4 ?k5 ?k6 ?k7 ?k8 ?_; (case z => exact picked_small (by assumption)); (case k1 => k_asm); (case k2 => k_asm); (case k3 => k_asm); (case k4 => k_asm); (case k5 => k_asm); (case k6 => first | exact rfl | assumption); (case k7 => ktr_room); (case k8 => ktr_units)); (intro v9 h9 tk9 P9 F9 N9; obtain ⟨t9, e9⟩ := P9; subst e9; (try (rename fval _ = Nat.cast _ => hw9; rw [hw9]))); (try k_fold)) | (k_here; (with_reducible show wpAny _ _ (subscriptTail _ (PySem.Expr.Slice _ _ none _) (Value.bytes _ _) (Value.ref _)) _ _ _); (with_reducible rename Fr _ _ _ _ => F'); (with_reducible rename News _ _ _ _ => N'); (refine KBc.slice_K (s := ⟨_, _, _, _, _⟩) F' N' rfl (by constructor) (by constructor) (ints_small (by assumption)) ?_); intro h9 t9 k9 F9 N9 kbcK; clear kbcK F' N'; (try k_fold)) | (k_here; (with_reducible show wpAny _ _ (subscriptTail _ _ (Value.ref _) (Value.int _ _)) _ _ _); k_dflt (refine' item_lit ?F ?m ?a ?b ?x ?_ ?s; (case F => k_asm); (case m => assumption); (case a => decide); (case b => decide); (case x => rfl); (case s => with_unfolding_all rfl))) | walk1 | (dsimp only; walk1) | (leave1; walk_say "STEP leave1"; try dsimp only) | fail "no step"))); all_goals (try k_fold))
    (rename News h₀ L _ _ => N9)
    rw [hone, htwo] at N9
    exact hret _ _ _ _ ⟨_, _, _, _, _, _, _, _, rfl, rfl, by assumption, by assumption⟩ (by k_asm) N9
  all_goals (
    have hp9 := hp hw0
    ((repeat' ( (fail_if_success (with_reducible show wpAny _ _ (pyIter (Value.ref _)) _ _ _)); (fail_if_success (with_reducible show wpAny _ _ (exec (Stmt.While _ _ _ _) _) _ _ _)); (first | (k_unfold; (try dsimp only)) | (k_end; wrow_close) | (k_here; (with_reducible show wpAny _ _ (call (Value.ref 97) [Value.bytes _ _]) _ _ _); k_dflt (refine' does_pure (field_does _ _ _ _ ?z) ?k1 ?k2 ?k3 ?k4 ?k5 ?k6 ?k7 ?k8 ?_; (case z => exact picked_small (by assumption)); (case k1 => k_asm); (case k2 => k_asm); (case k3 => k_asm); (case k4 => k_asm); (case k5 => k_asm); (case k6 => first | exact rfl | assumption); (case k7 => ktr_room); (case k8 => ktr_units)); (intro v9 h9 tk9 P9 F9 N9; obtain ⟨t9, e9⟩ := P9; subst e9; (try (rename fval _ = Nat.cast _ => hw9; rw [hw9]))); (try k_fold)) | (k_here; (with_reducible show wpAny _ _ (subscriptTail _ (PySem.Expr.Slice _ _ none _) (Value.bytes _ _) (Value.ref _)) _ _ _); (with_reducible rename Fr _ _ _ _ => F'); (with_reducible rename News _ _ _ _ => N'); (refine KBc.slice_K (s := ⟨_, _, _, _, _⟩) F' N' rfl (by constructor) (by constructor) (ints_small (by assumption)) ?_); intro h9 t9 k9 F9 N9 kbcK; clear kbcK F' N'; (try k_fold)) | (k_here; (with_reducible show wpAny _ _ (subscriptTail _ _ (Value.ref _) (Value.int _ _)) _ _ _); k_dflt (refine' item_lit ?F ?m ?a ?b ?x ?_ ?s; (case F => k_asm); (case m => assumption); (case a => decide); (case b => decide); (case x => rfl); (case s => with_unfolding_all rfl))) | walk1 | (dsimp only; walk1) | (leave1; walk_say "STEP leave1"; try dsimp only) | fail "no step"))); all_goals (try k_fold))
    (rename News h₀ L _ _ => N9)
    rw [hone, htwo] at N9
    exact hret _ _ _ _ ⟨_, _, _, _, _, _, _, _, rfl, rfl, by assumption, by assumption⟩ (by k_asm) N9)
end
theorem re_does (w : World) (news : Led) (b : Array UInt8) (tb : Tok) (wd : Addr) (w0 w1 w2 : Nat) (t0 t1 t2 : Tok) (ep : Nat) (hb : b.size ≤ 40) (h0 : w0 ≤ 10) (h1 : w1 ≤ 10) (k : Nat) (hk3 : k < 3) (one two : Int)
    (hW : (wd, W.listOf #[.int (w0 : Int) t0, .int (w1 : Int) t1, .int (w2 : Int) t2] ep) ∈ news) (hz : w0 = 0 → k = 1) (hp : 0 < w0 → fval (KBy.picked b none (some (w0 : Int))).toList = (k : Int))
    (hone : fval (KBy.picked b (some (w0 : Int)) (some ((w0 : Int) + (w1 : Int)))).toList = one) (htwo : fval (KBy.picked b (some ((w0 : Int) + (w1 : Int))) none).toList = two) :
    Does w 125 20 600 news [.bytes b tb, .ref wd] (MadeEnt w (wayS k) one two news) := by
  intro mean mg mb dp un gd cn cs a ccd cl' outer A₀ base h₀ L m s Q E
  exact (Classical.byContradiction fun hn => @Classical.epsilon_spec _ (fun x : (World) × (Led) × (Array UInt8) × (Tok) × (Addr) × (Tok) × (Tok) × (Tok) × (Nat) × (Int) × (Int) × (ExcName → Option Value) × (Str → Option Value) × (Str → Option Value) × (Nat) × (Nat) × (Option (List Code)) × (Str) × (Scope) × (Addr) × (Value) × (List (Str × Addr)) × (List Env) × (Around) × (Heap) × (Heap) × (Addr) × (Str → Option Value) × (Shared) × (Value → Shared → Prop) × (Value → Shared → Prop) => ¬ Zre_does.G (x.1) (x.2.1) (x.2.2.1) (x.2.2.2.1) (x.2.2.2.2.1) (x.2.2.2.2.2.1) (x.2.2.2.2.2.2.1) (x.2.2.2.2.2.2.2.1) (x.2.2.2.2.2.2.2.2.1) (x.2.2.2.2.2.2.2.2.2.1) (x.2.2.2.2.2.2.2.2.2.2.1) (x.2.2.2.2.2.2.2.2.2.2.2.1) (x.2.2.2.2.2.2.2.2.2.2.2.2.1) (x.2.2.2.2.2.2.2.2.2.2.2.2.2.1) (x.2.2.2.2.2.2.2.2.2.2.2.2.2.2.1) (x.2.2.2.2.2.2.2.2.2.2.2.2.2.2.2.1) (x.2.2.2.2.2.2.2.2.2.2.2.2.2.2.2.2.1) (x.2.2.2.2.2.2.2.2.2.2.2.2.2.2.2.2.2.1) (x.2.2.2.2.2.2.2.2.2.2.2.2.2.2.2.2.2.2.1) (x.2.2.2.2.2.2.2.2.2.2.2.2.2.2.2.2.2.2.2.1) (x.2.2.2.2.2.2.2.2.2.2.2.2.2.2.2.2.2.2.2.2.1) (x.2.2.2.2.2.2.2.2.2.2.2.2.2.2.2.2.2.2.2.2.2.1) (x.2.2.2.2.2.2.2.2.2.2.2.2.2.2.2.2.2.2.2.2.2.2.1) (x.2.2.2.2.2.2.2.2.2.2.2.2.2.2.2.2.2.2.2.2.2.2.2.1) (x.2.2.2.2.2.2.2.2.2.2.2.2.2.2.2.2.2.2.2.2.2.2.2.2.1) (x.2.2.2.2.2.2.2.2.2.2.2.2.2.2.2.2.2.2.2.2.2.2.2.2.2.1) (x.2.2.2.2.2.2.2.2.2.2.2.2.2.2.2.2.2.2.2.2.2.2.2.2.2.2.1) (x.2.2.2.2.2.2.2.2.2.2.2.2.2.2.2.2.2.2.2.2.2.2.2.2.2.2.2.1) (x.2.2.2.2.2.2.2.2.2.2.2.2.2.2.2.2.2.2.2.2.2.2.2.2.2.2.2.2.1) (x.2.2.2.2.2.2.2.2.2.2.2.2.2.2.2.2.2.2.2.2.2.2.2.2.2.2.2.2.2.1) (x.2.2.2.2.2.2.2.2.2.2.2.2.2.2.2.2.2.2.2.2.2.2.2.2.2.2.2.2.2.2)) ⟨(w, news, b, tb, wd, t0, t1, t2, ep, one, two, mean, mg, mb, dp, un, gd, cn, cs, a, ccd, cl', outer, A₀, base, h₀, L, m, s, Q, E), hn⟩ Zre_does.main) w0 w1 w2 k hb h0 h1 hk3 hW hz hp hone htwo
end Mine
end
section
theorem Mine.offT9 : True := by w_top off; trivial
namespace Mine
/-- the numbers of a run, of runs -/
noncomputable def runKeys (rs : List (Int × Int)) : List Int := rs.flatMap fun r => (List.range r.2.toNat).map fun (j : Nat) => r.1 + (j : Int)
theorem runKeys_snoc (rs : List (Int × Int)) (r : Int × Int) : runKeys (rs ++ [r]) = runKeys rs ++ (List.range r.2.toNat).map fun (j : Nat) => r.1 + (j : Int) := by
  simp [runKeys, List.flatMap_append]
theorem runKeys_new (rs : List (Int × Int)) (k : Int) : runKeys (rs ++ [(k, 1)]) = runKeys rs ++ [k] := by
  rw [runKeys_snoc]; simp
theorem runKeys_more (rs : List (Int × Int)) (a c : Int) (hc : 0 < c) : runKeys (rs ++ [(a, c + 1)]) = runKeys (rs ++ [(a, c)]) ++ [a + c] := by
  rw [runKeys_snoc, runKeys_snoc]
  have e : (c + 1).toNat = c.toNat + 1 := by omega
  simp only [e, List.range_succ, List.map_append, List.map_cons, List.map_nil, List.append_assoc]
  have e2 : ((c.toNat : Nat) : Int) = c := by omega
  rw [e2]
theorem run_le {rs : List (Int × Int)} {a c k : Int} {ks : List Int} {i : Nat} (hr : runKeys (rs ++ [(a, c)]) = ks.take i) (hc : 0 < c) (hs : ks.Pairwise (· < ·)) (hk : ks[i]? = some k) : a + c ≤ k := by
  have h1 : a + (c - 1) ∈ runKeys (rs ++ [(a, c)]) := by
    rw [runKeys_snoc]
    refine List.mem_append_right _ (List.mem_map.mpr ⟨(c - 1).toNat, List.mem_range.mpr (by omega), ?_⟩)
    omega
  rw [hr] at h1
  obtain ⟨j, hj⟩ := List.mem_iff_getElem?.mp h1
  rw [List.getElem?_take] at hj
  split at hj
  · rename_i hji
    have hjl : j < ks.length := by
      rcases Nat.lt_or_ge j ks.length with h | h
      · exact h
      · rw [List.getElem?_eq_none h] at hj; cases hj
    have hil : i < ks.length := by
      rcases Nat.lt_or_ge i ks.length with h | h
      · exact h
      · rw [List.getElem?_eq_none h] at hk; cases hk
    have := List.pairwise_iff_getElem.mp hs j i hjl hil hji
    rw [List.getElem?_eq_getElem hjl] at hj
    rw [List.getElem?_eq_getElem hil] at hk
    have e1 := Option.some.inj hj
    have e2 := Option.some.inj hk
    omega
  · cases hj
theorem runKeys_len : ∀ {rs : List (Int × Int)}, (∀ r ∈ rs, 0 < r.2) → rs.length ≤ (runKeys rs).length
  | [], _ => Nat.le_refl _
  | r :: rs, h => by
    have ih := runKeys_len (rs := rs) fun x hx => h x (.tail _ hx)
    have h1 := h r (.head _)
    have e : runKeys (r :: rs) = ((List.range r.2.toNat).map fun (j : Nat) => r.1 + (j : Int)) ++ runKeys rs := by simp [runKeys]
    rw [e, List.length_append, List.length_map, List.length_range, List.length_cons]
    omega
theorem take_snoc {ks : List Int} {i : Nat} {k : Int} (hk : ks[i]? = some k) : ks.take (i + 1) = ks.take i ++ [k] := by
  rw [List.take_add_one, hk]; rfl
inductive RunJ (news : Led) (kvs : List (Int × Value)) (R : Addr) (m₀ : Str → Option Value) (i : Nat) (m₁ : Str → Option Value) (l : Led) : Prop
  | mk (its : List Value) (ep : Nat) (rest : Led) (rs : List (Int × Int)) (h0 : l = (R, W.listOf (List.toArray its) ep) :: rest) (h1 : (∀ p ∈ news, p ∈ rest)) (h2 : (∀ p ∈ rest, @Ne Nat p.1 R)) (h3 : RunsAt rest its rs) (h4 : runKeys rs = (kvs.map (·.1)).take i) (h5 : (∀ r ∈ rs, 0 < r.2)) (h6 : Like (Str.ofString "number") m₀ m₁ []) : RunJ news kvs R m₀ i m₁ l
noncomputable def Zro_does.G (w : World) (news : Led) (D : Addr) (oD : Obj) (kvs : List (Int × Value)) (mean : ExcName → Option Value) (mg : Str → Option Value) (mb : Str → Option Value) (dp : Nat) (un : Nat) (gd : Option (List Code)) (cn : Str) (cs : Scope) (a : Addr) (ccd : Value) (cl' : List (Str × Addr)) (outer : List Env) (A₀ : Around) (base : Heap) (h₀ : Heap) (L : Addr) (m : Str → Option Value) (s : Shared) (Q : Value → Shared → Prop) (E : Value → Shared → Prop) : Prop :=
  ∀ (hm : (D, oD) ∈ news), ∀ (hd : oD.IsDictOf (PySem.intKind prg w) kvs), ∀ (lo : (D == sysModules) = false), ∀ (hn : kvs.length < 64), ∀ (hs : (kvs.map (·.1)).Pairwise (· < ·)), DoesB w 49 20 600 news [.ref D] (fun v news' => ∃ (R : Addr) (its : List Value) (ep : Nat) (rest : Led) (rs : List (Int × Int)), v = .ref R ∧ news' = (R, W.listOf its.toArray ep) :: rest ∧ (∀ p ∈ news, p ∈ rest) ∧ (∀ p ∈ rest, @Ne Nat p.1 R) ∧ RunsAt rest its rs ∧ runKeys rs = kvs.map (·.1) ∧ ∀ r ∈ rs, 0 < r.2) mean mg mb dp un gd cn cs a ccd cl' outer A₀ base h₀ L m s Q E
noncomputable def Zro_does.c : (World) × (Led) × (Addr) × (Obj) × (List (Int × Value)) × (ExcName → Option Value) × (Str → Option Value) × (Str → Option Value) × (Nat) × (Nat) × (Option (List Code)) × (Str) × (Scope) × (Addr) × (Value) × (List (Str × Addr)) × (List Env) × (Around) × (Heap) × (Heap) × (Addr) × (Str → Option Value) × (Shared) × (Value → Shared → Prop) × (Value → Shared → Prop) :=
  @Classical.epsilon _ ⟨((aWorld 0 : World), (default : Led), (default : Addr), (default : Obj), (default : List (Int × Value)), (fun _ => none : ExcName → Option Value), (fun _ => none : Str → Option Value), (fun _ => none : Str → Option Value), (default : Nat), (default : Nat), (default : Option (List Code)), (default : Str), (default : Scope), (default : Addr), (default : Value), (default : List (Str × Addr)), (default : List Env), (callerA : Around), (default : Heap), (default : Heap), (default : Addr), (fun _ => none : Str → Option Value), ({} : Shared), (fun _ _ => True : Value → Shared → Prop), (fun _ _ => True : Value → Shared → Prop))⟩ fun x => ¬ Zro_does.G (x.1) (x.2.1) (x.2.2.1) (x.2.2.2.1) (x.2.2.2.2.1) (x.2.2.2.2.2.1) (x.2.2.2.2.2.2.1) (x.2.2.2.2.2.2.2.1) (x.2.2.2.2.2.2.2.2.1) (x.2.2.2.2.2.2.2.2.2.1) (x.2.2.2.2.2.2.2.2.2.2.1) (x.2.2.2.2.2.2.2.2.2.2.2.1) (x.2.2.2.2.2.2.2.2.2.2.2.2.1) (x.2.2.2.2.2.2.2.2.2.2.2.2.2.1) (x.2.2.2.2.2.2.2.2.2.2.2.2.2.2.1) (x.2.2.2.2.2.2.2.2.2.2.2.2.2.2.2.1) (x.2.2.2.2.2.2.2.2.2.2.2.2.2.2.2.2.1) (x.2.2.2.2.2.2.2.2.2.2.2.2.2.2.2.2.2.1) (x.2.2.2.2.2.2.2.2.2.2.2.2.2.2.2.2.2.2.1) (x.2.2.2.2.2.2.2.2.2.2.2.2.2.2.2.2.2.2.2.1) (x.2.2.2.2.2.2.2.2.2.2.2.2.2.2.2.2.2.2.2.2.1) (x.2.2.2.2.2.2.2.2.2.2.2.2.2.2.2.2.2.2.2.2.2.1) (x.2.2.2.2.2.2.2.2.2.2.2.2.2.2.2.2.2.2.2.2.2.2.1) (x.2.2.2.2.2.2.2.2.2.2.2.2.2.2.2.2.2.2.2.2.2.2.2.1) (x.2.2.2.2.2.2.2.2.2.2.2.2.2.2.2.2.2.2.2.2.2.2.2.2)
noncomputable def Zro_does.V.w : World := Zro_does.c.1
noncomputable def Zro_does.V.news : Led := Zro_does.c.2.1
noncomputable def Zro_does.V.D : Addr := Zro_does.c.2.2.1
noncomputable def Zro_does.V.oD : Obj := Zro_does.c.2.2.2.1
noncomputable def Zro_does.V.kvs : List (Int × Value) := Zro_does.c.2.2.2.2.1
noncomputable def Zro_does.V.mean : ExcName → Option Value := Zro_does.c.2.2.2.2.2.1
noncomputable def Zro_does.V.mg : Str → Option Value := Zro_does.c.2.2.2.2.2.2.1
noncomputable def Zro_does.V.mb : Str → Option Value := Zro_does.c.2.2.2.2.2.2.2.1
noncomputable def Zro_does.V.dp : Nat := Zro_does.c.2.2.2.2.2.2.2.2.1
noncomputable def Zro_does.V.un : Nat := Zro_does.c.2.2.2.2.2.2.2.2.2.1
noncomputable def Zro_does.V.gd : Option (List Code) := Zro_does.c.2.2.2.2.2.2.2.2.2.2.1
noncomputable def Zro_does.V.cn : Str := Zro_does.c.2.2.2.2.2.2.2.2.2.2.2.1
noncomputable def Zro_does.V.cs : Scope := Zro_does.c.2.2.2.2.2.2.2.2.2.2.2.2.1
noncomputable def Zro_does.V.a : Addr := Zro_does.c.2.2.2.2.2.2.2.2.2.2.2.2.2.1
noncomputable def Zro_does.V.ccd : Value := Zro_does.c.2.2.2.2.2.2.2.2.2.2.2.2.2.2.1
noncomputable def Zro_does.V.cl' : List (Str × Addr) := Zro_does.c.2.2.2.2.2.2.2.2.2.2.2.2.2.2.2.1
noncomputable def Zro_does.V.outer : List Env := Zro_does.c.2.2.2.2.2.2.2.2.2.2.2.2.2.2.2.2.1
noncomputable def Zro_does.V.A₀ : Around := Zro_does.c.2.2.2.2.2.2.2.2.2.2.2.2.2.2.2.2.2.1
noncomputable def Zro_does.V.base : Heap := Zro_does.c.2.2.2.2.2.2.2.2.2.2.2.2.2.2.2.2.2.2.1
noncomputable def Zro_does.V.h₀ : Heap := Zro_does.c.2.2.2.2.2.2.2.2.2.2.2.2.2.2.2.2.2.2.2.1
noncomputable def Zro_does.V.L : Addr := Zro_does.c.2.2.2.2.2.2.2.2.2.2.2.2.2.2.2.2.2.2.2.2.1
noncomputable def Zro_does.V.m : Str → Option Value := Zro_does.c.2.2.2.2.2.2.2.2.2.2.2.2.2.2.2.2.2.2.2.2.2.1
noncomputable def Zro_does.V.s : Shared := Zro_does.c.2.2.2.2.2.2.2.2.2.2.2.2.2.2.2.2.2.2.2.2.2.2.1
noncomputable def Zro_does.V.Q : Value → Shared → Prop := Zro_does.c.2.2.2.2.2.2.2.2.2.2.2.2.2.2.2.2.2.2.2.2.2.2.2.1
noncomputable def Zro_does.V.E : Value → Shared → Prop := Zro_does.c.2.2.2.2.2.2.2.2.2.2.2.2.2.2.2.2.2.2.2.2.2.2.2.2
section
open Zro_does.V
set_option maxHeartbeats 8000000 in
theorem Zro_does.main : Zro_does.G Zro_does.V.w Zro_does.V.news Zro_does.V.D Zro_does.V.oD Zro_does.V.kvs Zro_does.V.mean Zro_does.V.mg Zro_does.V.mb Zro_does.V.dp Zro_does.V.un Zro_does.V.gd Zro_does.V.cn Zro_does.V.cs Zro_does.V.a Zro_does.V.ccd Zro_does.V.cl' Zro_does.V.outer Zro_does.V.A₀ Zro_does.V.base Zro_does.V.h₀ Zro_does.V.L Zro_does.V.m Zro_does.V.s Zro_does.V.Q Zro_does.V.E := by
  unfold Zro_does.G DoesB
  k_fill
  intro hm hd lo hn hs B F X N T hk hdp hun hret
  refine wpAny_call ?_
  k_dflt cell_enter
  ((repeat' ( (fail_if_success (with_reducible show wpAny _ _ (pyIter (Value.ref _)) _ _ _)); (fail_if_success (with_reducible show wpAny _ _ (exec (Stmt.While _ _ _ _) _) _ _ _)); (first | (k_unfold; (try dsimp only)) | (k_end; wrow_close) | ((with_reducible show wpAny _ _ (call (Value.builtin "sorted") _ _) _ _ _); (k_here; (with_reducible show wpAny _ _ (call (Value.builtin "sorted") [Value.ref _]) _ _ _); k_dflt (refine' sorted_dict ?my1 ?my2 ?my3 ?my4 ?my5 ?my6 ?my7 ?my8 ?_; (case my1 => exact rfl); (case my2 => k_asm); (case my3 => k_asm); (case my4 => k_mem); (case my5 => assumption); (case my6 => assumption); (case my7 => assumption); (case my8 => assumption)); intro D' vs' c' h' tk' F' N' l1 hI')) | ((with_reducible show wpAny _ _ (setItem (Value.ref _) (Value.int _ _) _) _ _ _); (k_here; k_dflt (refine' set_last ?my1 ?my2 ?my3 ?_; (case my1 => k_asm); (case my2 => k_asm); (case my3 => k_upd)); intro h' F' N')) | (k_here; (with_reducible show wpAny _ _ (subscriptTail _ _ (Value.ref _) (Value.int (-1) _)) _ _ _); k_dflt (refine' item_last ?my1 ?my2 ?_ ?my3; (case my1 => k_asm); (case my2 => k_mem); (case my3 => with_unfolding_all rfl))) | (k_here; (with_reducible show wpAny _ _ (subscriptTail _ _ (Value.ref _) (Value.int _ _)) _ _ _); k_dflt (refine' item_tup ?my1 ?my2 ?my4 ?my5 ?my6 ?_ ?my3; (case my1 => k_asm); (case my2 => k_mem); (case my4 => decide); (case my5 => decide); (case my6 => rfl); (case my3 => with_unfolding_all rfl))) | (k_here; (with_reducible show wpAny _ _ (compareOp CmpOp.Eq (Value.ref _) (Value.ref _)) _ _ _); k_dflt (first | (refine' eq_nil0 ?my1 ?my2 ?my3 ?my4 ?my5 ?my6 ?_; (case my1 => k_asm); (case my2 => k_mem); (case my3 => k_mem); (case my4 => assumption); (case my5 => walk_at "MY sub"); (case my6 => units_room)) | (refine' eq_nil1 ?my1 ?my2 ?my3 ?my4 ?my5 ?my6 ?_; (case my1 => k_asm); (case my2 => k_mem); (case my3 => k_mem); (case my4 => assumption); (case my5 => walk_at "MY sub"); (case my6 => units_room)))) | (k_here; (with_reducible show wpAny _ _ (compareOp CmpOp.NotEq (Value.ref _) (Value.ref _)) _ _ _); k_dflt (first | (refine' ne_nil0 ?my1 ?my2 ?my3 ?my4 ?my5 ?my6 ?_; (case my1 => k_asm); (case my2 => k_mem); (case my3 => k_mem); (case my4 => assumption); (case my5 => walk_at "MY sub"); (case my6 => units_room)) | (refine' ne_nil1 ?my1 ?my2 ?my3 ?my4 ?my5 ?my6 ?_; (case my1 => k_asm); (case my2 => k_mem); (case my3 => k_mem); (case my4 => assumption); (case my5 => walk_at "MY sub"); (case my6 => units_room)))) | walk1 | (dsimp only; walk1) | (leave1; walk_say "STEP leave1"; try dsimp only) | fail "no step"))); all_goals (try k_fold))
  (rename Fr _ _ _ _ => lF')
  (rename News _ _ _ _ => lN')
  obtain ⟨S, vsS, cS, hS, hvS, hcS, -⟩ := led_lst lN'
  subst hS hvS hcS
  obtain ⟨R, hR, -⟩ := led_2 lN'
  subst hR
  (rename IntsAre _ _ => hI)
  (rename ∀ (q : Addr × Obj), q ∈ (R, _) :: news → q.1 < S => l1)
  have hRS : @LT.lt Nat _ R S := l1 _ (.head _)
  have hRn : ∀ p ∈ news, @Ne Nat p.1 R := fun p hp => Nat.ne_of_lt ((by assumption : ∀ p ∈ news, p.1 < R) p hp)
  have lN2 : News _ _ _ ((R, W.listOf #[] 0) :: (S, W.listOf _ _) :: news) := news_sub lN' (by walk_at "MY sub")
  refine iter_list (RunJ news kvs R)
    rfl lF' lN2 (.tail _ (.head _)) ⟨[], 0, _, [], rfl, ?_, ?_, .nil, rfl, ?_, Like.start trivial⟩ ?_ ?_
  · exact fun p hp => .tail _ hp
  · intro p hp
    rcases List.mem_cons.mp hp with rfl | hp
    · exact Nat.ne_of_gt hRS
    · exact hRn p hp
  · exact fun r hr => nomatch hr
  · rintro i v m₁ _ I oI h tk QT hQT hx ⟨its, ep, rest, rs, rfl, hb, hR1, hRA, hk, hpos, hL⟩ hmem ho F₁ N₁
    have F₂ := hL.turn F₁
    simp only [upd] at F₂
    have hil : i < (kvs.map (·.1)).length := by
      rw [← hI.length]
      rcases Nat.lt_or_ge i vsS.length with h | h
      · exact h
      · simp [List.getElem?_eq_none h] at hx
    obtain ⟨k, hki⟩ : ∃ k, (kvs.map (·.1))[i]? = some k := ⟨_, List.getElem?_eq_getElem hil⟩
    obtain ⟨tv, hv⟩ := hI.get i k hki
    have hv2 : v = .int k tv := by
      have hx' := hx
      rw [List.getElem?_toArray, hv] at hx'
      exact (Option.some.inj hx').symm
    subst hv2
    have hS2 : (S, W.listOf vsS.toArray cS) ∈ rest := by
      rcases List.mem_cons.mp hmem with e | e
      · exact absurd (congrArg Prod.fst e) (Nat.ne_of_gt hRS)
      · exact e
    have hz9 : its.length ≤ 100 := by
      have h1 := runKeys_len hpos
      rw [hk, List.length_take] at h1
      have h2 := hRA.length
      rw [List.length_map] at hil
      omega
    have hRI := ho _ (.head _)
    dsimp only at hRI
    have hrest : ∀ p ∈ rest, @Ne Nat p.1 I := fun p hp => ho p (.tail _ hp)
    clear F₁ lF' lN' lN2
    try k_fold
    rcases List.eq_nil_or_concat rs with rfl | ⟨rs', ⟨a1, c1⟩, rfl⟩
    · ((repeat' ( (fail_if_success (with_reducible show wpAny _ _ (pyIter (Value.ref _)) _ _ _)); (fail_if_success (with_reducible show wpAny _ _ (exec (Stmt.While _ _ _ _) _) _ _ _)); (first | (k_unfold; (try dsimp only)) | (k_end; wrow_close) | ((with_reducible show wpAny _ _ (call (Value.builtin "sorted") _ _) _ _ _); (k_here; (with_reducible show wpAny _ _ (call (Value.builtin "sorted") [Value.ref _]) _ _ _); k_dflt (refine' sorted_dict ?my1 ?my2 ?my3 ?my4 ?my5 ?my6 ?my7 ?my8 ?_; (case my1 => exact rfl); (case my2 => k_asm); (case my3 => k_asm); (case my4 => k_mem); (case my5 => assumption); (case my6 => assumption); (case my7 => assumption); (case my8 => assumption)); intro D' vs' c' h' tk' F' N' l1 hI')) | ((with_reducible show wpAny _ _ (setItem (Value.ref _) (Value.int _ _) _) _ _ _); (k_here; k_dflt (refine' set_last ?my1 ?my2 ?my3 ?_; (case my1 => k_asm); (case my2 => k_asm); (case my3 => k_upd)); intro h' F' N')) | (k_here; (with_reducible show wpAny _ _ (subscriptTail _ _ (Value.ref _) (Value.int (-1) _)) _ _ _); k_dflt (refine' item_last ?my1 ?my2 ?_ ?my3; (case my1 => k_asm); (case my2 => k_mem); (case my3 => with_unfolding_all rfl))) | (k_here; (with_reducible show wpAny _ _ (subscriptTail _ _ (Value.ref _) (Value.int _ _)) _ _ _); k_dflt (refine' item_tup ?my1 ?my2 ?my4 ?my5 ?my6 ?_ ?my3; (case my1 => k_asm); (case my2 => k_mem); (case my4 => decide); (case my5 => decide); (case my6 => rfl); (case my3 => with_unfolding_all rfl))) | (k_here; (with_reducible show wpAny _ _ (compareOp CmpOp.Eq (Value.ref _) (Value.ref _)) _ _ _); k_dflt (first | (refine' eq_nil0 ?my1 ?my2 ?my3 ?my4 ?my5 ?my6 ?_; (case my1 => k_asm); (case my2 => k_mem); (case my3 => k_mem); (case my4 => assumption); (case my5 => walk_at "MY sub"); (case my6 => units_room)) | (refine' eq_nil1 ?my1 ?my2 ?my3 ?my4 ?my5 ?my6 ?_; (case my1 => k_asm); (case my2 => k_mem); (case my3 => k_mem); (case my4 => assumption); (case my5 => walk_at "MY sub"); (case my6 => units_room)))) | (k_here; (with_reducible show wpAny _ _ (compareOp CmpOp.NotEq (Value.ref _) (Value.ref _)) _ _ _); k_dflt (first | (refine' ne_nil0 ?my1 ?my2 ?my3 ?my4 ?my5 ?my6 ?_; (case my1 => k_asm); (case my2 => k_mem); (case my3 => k_mem); (case my4 => assumption); (case my5 => walk_at "MY sub"); (case my6 => units_room)) | (refine' ne_nil1 ?my1 ?my2 ?my3 ?my4 ?my5 ?my6 ?_; (case my1 => k_asm); (case my2 => k_mem); (case my3 => k_mem); (case my4 => assumption); (case my5 => walk_at "MY sub"); (case my6 => units_room)))) | walk1 | (dsimp only; walk1) | (leave1; walk_say "STEP leave1"; try dsimp only) | fail "no step"))); all_goals (try k_fold))
      (rename Fr _ _ _ _ => lF')
      (rename News _ _ _ _ => lN')
      rw [List.push_toArray] at lN'
      obtain ⟨t, ht, -⟩ := led_1 lN'
      subst ht
      have htR : @Ne Nat t R := by omega
      have htI : @Ne Nat t I := by omega
      refine hQT _ _ <| TurnEnd.next (news' := (R, W.listOf (List.toArray (its ++ [Value.ref t])) (ep + 1)) :: (t, _) :: rest) lF' (news_sub lN' (by walk_at "MY sub")) ?_ ?_ ⟨its ++ [.ref t], ep + 1, _, [] ++ [(k, 1)], rfl, fun p hp => .tail _ (hb p hp), ?_, RunsAt.snoc (hRA.mono fun p hp => .tail _ hp) ⟨t, _, _, rfl, .head _⟩, by rw [runKeys_new, hk, take_snoc hki], ?_, ⟨trivial, by intro z hx hz; simp [hx]⟩⟩
      · intro p hp; rw [List.mem_singleton.mp hp]; exact .tail _ (.tail _ hS2)
      · exact List.forall_mem_cons.mpr ⟨hRI, List.forall_mem_cons.mpr ⟨htI, hrest⟩⟩
      · exact List.forall_mem_cons.mpr ⟨htR, hR1⟩
      · intro r hr
        rcases List.mem_append.mp hr with h | h
        · exact hpos r h
        · rw [List.mem_singleton.mp h]; exact Int.one_pos
    · rw [List.concat_eq_append] at hRA hk hpos
      have hle := run_le hk (hpos (a1, c1) (by simp)) hs hki
      have hc1 := hpos (a1, c1) (by simp)
      obtain ⟨its', v1, rfl, hR2, t1, ta, tb, rfl, hm1⟩ := hRA.unsnoc rfl
      dsimp only at hm1 hle hc1
      ((repeat' ( (fail_if_success (with_reducible show wpAny _ _ (pyIter (Value.ref _)) _ _ _)); (fail_if_success (with_reducible show wpAny _ _ (exec (Stmt.While _ _ _ _) _) _ _ _)); (first | (k_unfold; (try dsimp only)) | (k_end; wrow_close) | ((with_reducible show wpAny _ _ (call (Value.builtin "sorted") _ _) _ _ _); (k_here; (with_reducible show wpAny _ _ (call (Value.builtin "sorted") [Value.ref _]) _ _ _); k_dflt (refine' sorted_dict ?my1 ?my2 ?my3 ?my4 ?my5 ?my6 ?my7 ?my8 ?_; (case my1 => exact rfl); (case my2 => k_asm); (case my3 => k_asm); (case my4 => k_mem); (case my5 => assumption); (case my6 => assumption); (case my7 => assumption); (case my8 => assumption)); intro D' vs' c' h' tk' F' N' l1 hI')) | ((with_reducible show wpAny _ _ (setItem (Value.ref _) (Value.int _ _) _) _ _ _); (k_here; k_dflt (refine' set_last ?my1 ?my2 ?my3 ?_; (case my1 => k_asm); (case my2 => k_asm); (case my3 => k_upd)); intro h' F' N')) | (k_here; (with_reducible show wpAny _ _ (subscriptTail _ _ (Value.ref _) (Value.int (-1) _)) _ _ _); k_dflt (refine' item_last ?my1 ?my2 ?_ ?my3; (case my1 => k_asm); (case my2 => k_mem); (case my3 => with_unfolding_all rfl))) | (k_here; (with_reducible show wpAny _ _ (subscriptTail _ _ (Value.ref _) (Value.int _ _)) _ _ _); k_dflt (refine' item_tup ?my1 ?my2 ?my4 ?my5 ?my6 ?_ ?my3; (case my1 => k_asm); (case my2 => k_mem); (case my4 => decide); (case my5 => decide); (case my6 => rfl); (case my3 => with_unfolding_all rfl))) | (k_here; (with_reducible show wpAny _ _ (compareOp CmpOp.Eq (Value.ref _) (Value.ref _)) _ _ _); k_dflt (first | (refine' eq_nil0 ?my1 ?my2 ?my3 ?my4 ?my5 ?my6 ?_; (case my1 => k_asm); (case my2 => k_mem); (case my3 => k_mem); (case my4 => assumption); (case my5 => walk_at "MY sub"); (case my6 => units_room)) | (refine' eq_nil1 ?my1 ?my2 ?my3 ?my4 ?my5 ?my6 ?_; (case my1 => k_asm); (case my2 => k_mem); (case my3 => k_mem); (case my4 => assumption); (case my5 => walk_at "MY sub"); (case my6 => units_room)))) | (k_here; (with_reducible show wpAny _ _ (compareOp CmpOp.NotEq (Value.ref _) (Value.ref _)) _ _ _); k_dflt (first | (refine' ne_nil0 ?my1 ?my2 ?my3 ?my4 ?my5 ?my6 ?_; (case my1 => k_asm); (case my2 => k_mem); (case my3 => k_mem); (case my4 => assumption); (case my5 => walk_at "MY sub"); (case my6 => units_room)) | (refine' ne_nil1 ?my1 ?my2 ?my3 ?my4 ?my5 ?my6 ?_; (case my1 => k_asm); (case my2 => k_mem); (case my3 => k_mem); (case my4 => assumption); (case my5 => walk_at "MY sub"); (case my6 => units_room)))) | walk1 | (dsimp only; walk1) | (leave1; walk_say "STEP leave1"; try dsimp only) | fail "no step"))); all_goals (try k_fold))
      · (rename Fr _ _ _ _ => lF')
        (rename News _ _ _ _ => lN')
        obtain ⟨t, ht, -⟩ := led_1 lN'
        subst ht
        have htR : @Ne Nat t R := by omega
        have htI : @Ne Nat t I := by omega
        (rename k = a1 + c1 => hk9)
        refine hQT _ _ <| TurnEnd.next (news' := (R, W.listOf (List.toArray (its' ++ [Value.ref t])) ep) :: (t, _) :: rest) lF' (news_sub lN' (by walk_at "MY sub")) ?_ ?_ ⟨its' ++ [.ref t], ep, _, rs' ++ [(a1, c1 + 1)], rfl, fun p hp => .tail _ (hb p hp), ?_, RunsAt.snoc (hR2.mono fun p hp => .tail _ hp) ⟨t, _, _, rfl, .head _⟩, by rw [runKeys_more _ _ _ hc1, hk, take_snoc hki, hk9], ?_, ⟨trivial, by intro z hx hz; simp [hx]⟩⟩
        · intro p hp; rw [List.mem_singleton.mp hp]; exact .tail _ (.tail _ hS2)
        · exact List.forall_mem_cons.mpr ⟨hRI, List.forall_mem_cons.mpr ⟨htI, hrest⟩⟩
        · exact List.forall_mem_cons.mpr ⟨htR, hR1⟩
        · intro r hr
          rcases List.mem_append.mp hr with h | h
          · exact hpos r (List.mem_append_left _ h)
          · rw [List.mem_singleton.mp h]; show 0 < c1 + 1; omega
      · (rename Fr _ _ _ _ => lF')
        (rename News _ _ _ _ => lN')
        rw [List.push_toArray] at lN'
        obtain ⟨t, ht, -⟩ := led_1 lN'
        subst ht
        have htR : @Ne Nat t R := by omega
        have htI : @Ne Nat t I := by omega
        refine hQT _ _ <| TurnEnd.next (news' := (R, W.listOf (List.toArray ((its' ++ [Value.ref t1]) ++ [Value.ref t])) (ep + 1)) :: (t, _) :: rest) lF' (news_sub lN' (by walk_at "MY sub")) ?_ ?_ ⟨_, ep + 1, _, (rs' ++ [(a1, c1)]) ++ [(k, 1)], rfl, fun p hp => .tail _ (hb p hp), ?_, RunsAt.snoc (hRA.mono fun p hp => .tail _ hp) ⟨t, _, _, rfl, .head _⟩, by rw [runKeys_new, hk, take_snoc hki], ?_, ⟨trivial, by intro z hx hz; simp [hx]⟩⟩
        · intro p hp; rw [List.mem_singleton.mp hp]; exact .tail _ (.tail _ hS2)
        · exact List.forall_mem_cons.mpr ⟨hRI, List.forall_mem_cons.mpr ⟨htI, hrest⟩⟩
        · exact List.forall_mem_cons.mpr ⟨htR, hR1⟩
        · intro r hr
          rcases List.mem_append.mp hr with h | h
          · exact hpos r h
          · rw [List.mem_singleton.mp h]; exact Int.one_pos
  · rintro h tk m' _ ⟨its, ep, rest, rs, rfl, hb, hR1, hRA, hk, hpos, hL⟩ hmem F₁ N₁
    have F₂ := hL.out F₁
    simp only [upd] at F₂
    clear F₁ lF' lN' lN2
    try k_fold
    ((repeat' ( (fail_if_success (with_reducible show wpAny _ _ (pyIter (Value.ref _)) _ _ _)); (fail_if_success (with_reducible show wpAny _ _ (exec (Stmt.While _ _ _ _) _) _ _ _)); (first | (k_unfold; (try dsimp only)) | (k_end; wrow_close) | ((with_reducible show wpAny _ _ (call (Value.builtin "sorted") _ _) _ _ _); (k_here; (with_reducible show wpAny _ _ (call (Value.builtin "sorted") [Value.ref _]) _ _ _); k_dflt (refine' sorted_dict ?my1 ?my2 ?my3 ?my4 ?my5 ?my6 ?my7 ?my8 ?_; (case my1 => exact rfl); (case my2 => k_asm); (case my3 => k_asm); (case my4 => k_mem); (case my5 => assumption); (case my6 => assumption); (case my7 => assumption); (case my8 => assumption)); intro D' vs' c' h' tk' F' N' l1 hI')) | ((with_reducible show wpAny _ _ (setItem (Value.ref _) (Value.int _ _) _) _ _ _); (k_here; k_dflt (refine' set_last ?my1 ?my2 ?my3 ?_; (case my1 => k_asm); (case my2 => k_asm); (case my3 => k_upd)); intro h' F' N')) | (k_here; (with_reducible show wpAny _ _ (subscriptTail _ _ (Value.ref _) (Value.int (-1) _)) _ _ _); k_dflt (refine' item_last ?my1 ?my2 ?_ ?my3; (case my1 => k_asm); (case my2 => k_mem); (case my3 => with_unfolding_all rfl))) | (k_here; (with_reducible show wpAny _ _ (subscriptTail _ _ (Value.ref _) (Value.int _ _)) _ _ _); k_dflt (refine' item_tup ?my1 ?my2 ?my4 ?my5 ?my6 ?_ ?my3; (case my1 => k_asm); (case my2 => k_mem); (case my4 => decide); (case my5 => decide); (case my6 => rfl); (case my3 => with_unfolding_all rfl))) | (k_here; (with_reducible show wpAny _ _ (compareOp CmpOp.Eq (Value.ref _) (Value.ref _)) _ _ _); k_dflt (first | (refine' eq_nil0 ?my1 ?my2 ?my3 ?my4 ?my5 ?my6 ?_; (case my1 => k_asm); (case my2 => k_mem); (case my3 => k_mem); (case my4 => assumption); (case my5 => walk_at "MY sub"); (case my6 => units_room)) | (refine' eq_nil1 ?my1 ?my2 ?my3 ?my4 ?my5 ?my6 ?_; (case my1 => k_asm); (case my2 => k_mem); (case my3 => k_mem); (case my4 => assumption); (case my5 => walk_at "MY sub"); (case my6 => units_room)))) | (k_here; (with_reducible show wpAny _ _ (compareOp CmpOp.NotEq (Value.ref _) (Value.ref _)) _ _ _); k_dflt (first | (refine' ne_nil0 ?my1 ?my2 ?my3 ?my4 ?my5 ?my6 ?_; (case my1 => k_asm); (case my2 => k_mem); (case my3 => k_mem); (case my4 => assumption); (case my5 => walk_at "MY sub"); (case my6 => units_room)) | (refine' ne_nil1 ?my1 ?my2 ?my3 ?my4 ?my5 ?my6 ?_; (case my1 => k_asm); (case my2 => k_mem); (case my3 => k_mem); (case my4 => assumption); (case my5 => walk_at "MY sub"); (case my6 => units_room)))) | walk1 | (dsimp only; walk1) | (leave1; walk_say "STEP leave1"; try dsimp only) | fail "no step"))); all_goals (try k_fold))
    exact hret _ _ _ _ ⟨R, its, ep, rest, rs, rfl, rfl, hb, hR1, hRA, by rw [hk, List.size_toArray, hI.length, List.take_length], hpos⟩ (by k_asm) (by k_asm)
end
theorem ro_does (w : World) (news : Led) (D : Addr) (oD : Obj) (kvs : List (Int × Value)) (hm : (D, oD) ∈ news) (hd : oD.IsDictOf (PySem.intKind prg w) kvs) (lo : (D == sysModules) = false) (hn : kvs.length < 64) (hs : (kvs.map (·.1)).Pairwise (· < ·)) :
    Does w 49 20 600 news [.ref D] (fun v news' => ∃ (R : Addr) (its : List Value) (ep : Nat) (rest : Led) (rs : List (Int × Int)), v = .ref R ∧ news' = (R, W.listOf its.toArray ep) :: rest ∧ (∀ p ∈ news, p ∈ rest) ∧ (∀ p ∈ rest, @Ne Nat p.1 R) ∧ RunsAt rest its rs ∧ runKeys rs = kvs.map (·.1) ∧ ∀ r ∈ rs, 0 < r.2) := by
  intro mean mg mb dp un gd cn cs a ccd cl' outer A₀ base h₀ L m s Q E
  exact (Classical.byContradiction fun hn => @Classical.epsilon_spec _ (fun x : (World) × (Led) × (Addr) × (Obj) × (List (Int × Value)) × (ExcName → Option Value) × (Str → Option Value) × (Str → Option Value) × (Nat) × (Nat) × (Option (List Code)) × (Str) × (Scope) × (Addr) × (Value) × (List (Str × Addr)) × (List Env) × (Around) × (Heap) × (Heap) × (Addr) × (Str → Option Value) × (Shared) × (Value → Shared → Prop) × (Value → Shared → Prop) => ¬ Zro_does.G (x.1) (x.2.1) (x.2.2.1) (x.2.2.2.1) (x.2.2.2.2.1) (x.2.2.2.2.2.1) (x.2.2.2.2.2.2.1) (x.2.2.2.2.2.2.2.1) (x.2.2.2.2.2.2.2.2.1) (x.2.2.2.2.2.2.2.2.2.1) (x.2.2.2.2.2.2.2.2.2.2.1) (x.2.2.2.2.2.2.2.2.2.2.2.1) (x.2.2.2.2.2.2.2.2.2.2.2.2.1) (x.2.2.2.2.2.2.2.2.2.2.2.2.2.1) (x.2.2.2.2.2.2.2.2.2.2.2.2.2.2.1) (x.2.2.2.2.2.2.2.2.2.2.2.2.2.2.2.1) (x.2.2.2.2.2.2.2.2.2.2.2.2.2.2.2.2.1) (x.2.2.2.2.2.2.2.2.2.2.2.2.2.2.2.2.2.1) (x.2.2.2.2.2.2.2.2.2.2.2.2.2.2.2.2.2.2.1) (x.2.2.2.2.2.2.2.2.2.2.2.2.2.2.2.2.2.2.2.1) (x.2.2.2.2.2.2.2.2.2.2.2.2.2.2.2.2.2.2.2.2.1) (x.2.2.2.2.2.2.2.2.2.2.2.2.2.2.2.2.2.2.2.2.2.1) (x.2.2.2.2.2.2.2.2.2.2.2.2.2.2.2.2.2.2.2.2.2.2.1) (x.2.2.2.2.2.2.2.2.2.2.2.2.2.2.2.2.2.2.2.2.2.2.2.1) (x.2.2.2.2.2.2.2.2.2.2.2.2.2.2.2.2.2.2.2.2.2.2.2.2)) ⟨(w, news, D, oD, kvs, mean, mg, mb, dp, un, gd, cn, cs, a, ccd, cl', outer, A₀, base, h₀, L, m, s, Q, E), hn⟩ Zro_does.main) hm hd lo hn hs
end Mine
end
section
namespace Mine
noncomputable def flat (rs : List (Int × Int)) : List Int := rs.flatMap fun r => [r.1, r.2]
theorem flat_length : ∀ rs : List (Int × Int), (flat rs).length = 2 * rs.length
  | [] => rfl
  | r :: rs => by have h := flat_length rs; unfold flat at h ⊢; rw [List.flatMap_cons, List.length_append, h]; simp; omega
theorem flat_at : ∀ (rs : List (Int × Int)) (i : Nat) (r : Int × Int), rs[i]? = some r → (flat rs)[2 * i]? = some r.1 ∧ (flat rs)[2 * i + 1]? = some r.2
  | [], i, r, h => by simp at h
  | x :: rs, 0, r, h => by simp at h; subst h; simp [flat]
  | x :: rs, i + 1, r, h => by
    obtain ⟨h1, h2⟩ := flat_at rs i r (by simpa using h)
    have e : flat (x :: rs) = x.1 :: x.2 :: flat rs := by simp [flat]
    rw [e]
    constructor
    · rw [show 2 * (i + 1) = 2 * i + 1 + 1 by omega]; simpa using h1
    · rw [show 2 * (i + 1) + 1 = 2 * i + 1 + 1 + 1 by omega]; simpa using h2
theorem range2_size (n : Nat) : Builtin.Range.rangeSize 0 ((2 * n : Nat) : Int) 2 = (n : Int) := by
  unfold Builtin.Range.rangeSize
  rw [if_pos (by decide)]
  split <;> omega
theorem range2_small {n : Nat} (h : n ≤ 1000) : Builtin.Range.small 0 ((2 * n : Nat) : Int) 2 = true := by
  unfold Builtin.Range.small
  rw [range2_size]
  have e : ∀ x : Int, 0 ≤ x → x ≤ 3000 → Builtin.Range.rangeFitsLong x = true := fun x h1 h2 => by
    unfold Builtin.Range.rangeFitsLong
    rw [Bool.and_eq_true, decide_eq_true_eq, decide_eq_true_eq]
    omega
  rw [if_pos (by decide), e 0 (by omega) (by omega), e _ (by omega) (by omega), e 2 (by omega) (by omega), e (n : Int) (by omega) (by omega), e _ (by omega) (by omega)]
  simp
theorem stored_new {K : Type} [DecidableEq K] {kvs : List (K × Value)} {k : K} {v : Value} (h : k ∉ kvs.map (·.1)) : stored kvs k v = kvs ++ [(k, v)] := by
  unfold stored
  rw [if_neg]
  simp only [List.any_eq_true, decide_eq_true_eq, not_exists, not_and]
  intro x hx e
  exact h (List.mem_map.mpr ⟨x, hx, e⟩)
theorem valueAt_none {K : Type} [DecidableEq K] {kvs : List (K × Value)} {k : K} (h : k ∉ kvs.map (·.1)) : (valueAt kvs k).isSome = false := by
  unfold valueAt
  rw [Option.isSome_map, Option.isSome_eq_false_iff, Option.isNone_iff_eq_none, List.find?_eq_none]
  intro x hx e
  exact h (List.mem_map.mpr ⟨x, hx, by simpa using e⟩)
theorem way_k {x : Str} (h : IsWay x) : ∃ k : Nat, k < 3 ∧ wayS k = x ∧ wayIx x = (k : Int) := by
  rcases h with rfl | rfl | rfl
  · exact ⟨0, by decide, rfl, wayIx_free⟩
  · exact ⟨1, by decide, rfl, wayIx_used⟩
  · exact ⟨2, by decide, rfl, wayIx_packed⟩
theorem runKeys_app (a b : List (Int × Int)) : runKeys (a ++ b) = runKeys a ++ runKeys b := by simp [runKeys, List.flatMap_append]
theorem runKeys_take {rs : List (Int × Int)} {i : Nat} {r : Int × Int} (h : rs[i]? = some r) : runKeys (rs.take (i + 1)) = runKeys (rs.take i) ++ (List.range r.2.toNat).map fun (j : Nat) => r.1 + (j : Int) := by
  rw [List.take_add_one, h]
  show runKeys (rs.take i ++ [r]) = _
  rw [runKeys_snoc]
/-- the row that the q-th number of the i-th run tells -/
theorem run_row {rs : List (Int × Int)} {es : List Ent} {i q : Nat} {r : Int × Int} (hk : runKeys rs = es.map (·.key)) (h : rs[i]? = some r) (hq : q < r.2.toNat) : ∃ e, es[(runKeys (rs.take i)).length + q]? = some e ∧ e.key = r.1 + (q : Int) := by
  have h1 := runKeys_take h
  have h2 : runKeys rs = runKeys (rs.take (i + 1)) ++ runKeys (rs.drop (i + 1)) := by
    rw [← runKeys_app, List.take_append_drop]
  have h3 : (runKeys rs)[(runKeys (rs.take i)).length + q]? = some (r.1 + (q : Int)) := by
    rw [h2, h1, List.append_assoc, List.getElem?_append_right (by omega), Nat.add_sub_cancel_left, List.getElem?_append_left (by simpa using hq), List.getElem?_map, List.getElem?_range hq]
    rfl
  rw [hk, List.getElem?_map] at h3
  obtain ⟨e, he, hke⟩ := Option.map_eq_some_iff.mp h3
  exact ⟨e, he, hke⟩
theorem run_len {rs : List (Int × Int)} {es : List Ent} {i : Nat} {r : Int × Int} (hk : runKeys rs = es.map (·.key)) (h : rs[i]? = some r) : (runKeys (rs.take i)).length + r.2.toNat ≤ es.length ∧ (runKeys (rs.take (i + 1))).length = (runKeys (rs.take i)).length + r.2.toNat := by
  have h1 := runKeys_take h
  have h2 : runKeys rs = runKeys (rs.take (i + 1)) ++ runKeys (rs.drop (i + 1)) := by
    rw [← runKeys_app, List.take_append_drop]
  have h3 := congrArg List.length h2
  rw [hk, List.length_map, List.length_append] at h3
  have h4 := congrArg List.length h1
  rw [List.length_append, List.length_map, List.length_range] at h4
  omega
theorem key_new {es : List Ent} (hs : (es.map (·.key)).Pairwise (· < ·)) {j : Nat} {e : Ent} (he : es[j]? = some e) : e.key ∉ (es.take j).map (·.key) := by
  intro hm
  obtain ⟨x, hx, hxe⟩ := List.mem_map.mp hm
  obtain ⟨p, hp⟩ := List.mem_iff_getElem?.mp hx
  rw [List.getElem?_take] at hp
  split at hp
  · rename_i hpj
    have hpl : p < (es.map (·.key)).length := by
      rw [List.length_map]
      rcases Nat.lt_or_ge p es.length with h | h
      · exact h
      · rw [List.getElem?_eq_none h] at hp; cases hp
    have hjl : j < (es.map (·.key)).length := by
      rw [List.length_map]
      rcases Nat.lt_or_ge j es.length with h | h
      · exact h
      · rw [List.getElem?_eq_none h] at he; cases he
    have h := List.pairwise_iff_getElem.mp hs p j hpl hjl hpj
    have e1 : (es.map (·.key))[p] = x.key := by
      have : (es.map (·.key))[p]? = some x.key := by rw [List.getElem?_map, hp]; rfl
      rw [List.getElem?_eq_getElem hpl] at this
      exact Option.some.inj this
    have e2 : (es.map (·.key))[j] = e.key := by
      have : (es.map (·.key))[j]? = some e.key := by rw [List.getElem?_map, he]; rfl
      rw [List.getElem?_eq_getElem hjl] at this
      exact Option.some.inj this
    omega
  · cases hp
section
variable {prog : Program} {w : World} {A : Around} {E : Value → Shared → Prop} {s : Shared} {h₀ : Heap} {L l : Addr} {news : Led} {vs : List Value} {ns : List Int} {c : Nat}
theorem item_ints {value slice : PySem.Expr} {k x : Int} {u : Tok} {Q : Value → Shared → Prop} (N : News h₀ L s.heap news) (hm : (l, W.listOf vs.toArray c) ∈ news) (hI : IntsAre vs ns) (hx : ns[k.toNat]? = some x) (h0 : 0 ≤ k) (hfit : k < 2 ^ 63)
    (h : ∀ t, Q (.int x t) s) (hs : subscripted slice false (.ref l) (.int k u) = operate [.ref l, .int k u] (getItem (.ref l) (.int k u)) := by with_unfolding_all rfl) :
    wpAny (model prog w) A (subscriptTail value slice (.ref l) (.int k u)) Q E s := by
  obtain ⟨t, ht⟩ := hI.get _ _ hx
  exact item_lit N hm h0 hfit ht (h t) hs
end
end Mine
end
section
theorem Mine.offT11 : True := by w_top off; trivial
namespace Mine
local macro_rules | `(tactic| k_ne) => `(tactic| first | assumption | exact NeA.symm (by assumption))
inductive RowsJ (w : World) (news : Led) (es : List Ent) (rs : List (Int × Int)) (sz : Nat) (D K : Addr) (m₀ : Str → Option Value) (i : Nat) (m₁ : Str → Option Value) (l : Led) : Prop
  | mk (oD oK : Obj) (kvsD kvsK : List (Int × Value)) (rest : Led) (X : Int) (tx : Tok) (h0 : l = (D, oD) :: (K, oK) :: rest) (h1 : (∀ p ∈ news, p ∈ rest)) (h2 : (∀ p ∈ rest, @Ne Nat p.1 D)) (h3 : (∀ p ∈ rest, @Ne Nat p.1 K)) (h4 : oD.IsDictOf (PySem.intKind prg w) kvsD) (h5 : oK.IsDictOf (PySem.intKind prg w) kvsK) (h6 : EntsAt w rest kvsD (es.take (runKeys (rs.take i)).length)) (h7 : kvsK.map (·.1) = (es.take (runKeys (rs.take i)).length).map (·.key)) (h8 : X = (((runKeys (rs.take i)).length * sz : Nat) : Int)) (h9 : Like (Str.ofString "spot") m₀ m₁ [(Str.ofString "number", m₁ (Str.ofString "number")), (Str.ofString "entry", m₁ (Str.ofString "entry")), (Str.ofString "at", some (.int X tx))]) : RowsJ w news es rs sz D K m₀ i m₁ l
inductive RowJ (w : World) (news : Led) (es : List Ent) (sz j0 : Nat) (I : Addr) (oI : Obj) (D K : Addr) (m₀ : Str → Option Value) (q : Nat) (m₁ : Str → Option Value) (l : Led) : Prop
  | mk (oD oK : Obj) (kvsD kvsK : List (Int × Value)) (rest : Led) (X : Int) (tx : Tok) (h0 : l = (I, oI) :: (D, oD) :: (K, oK) :: rest) (h1 : (∀ p ∈ news, p ∈ rest)) (h2 : (∀ p ∈ rest, @Ne Nat p.1 D)) (h3 : (∀ p ∈ rest, @Ne Nat p.1 K)) (h4 : (∀ p ∈ rest, @Ne Nat p.1 I)) (h5 : oD.IsDictOf (PySem.intKind prg w) kvsD) (h6 : oK.IsDictOf (PySem.intKind prg w) kvsK) (h7 : EntsAt w rest kvsD (es.take (j0 + q))) (h8 : kvsK.map (·.1) = (es.take (j0 + q)).map (·.key)) (h9 : X = (((j0 + q) * sz : Nat) : Int)) (h10 : Like (Str.ofString "number") m₀ m₁ [(Str.ofString "entry", m₁ (Str.ofString "entry")), (Str.ofString "at", some (.int X tx))]) : RowJ w news es sz j0 I oI D K m₀ q m₁ l
noncomputable def Zeo_does.G (w : World) (news : Led) (es : List Ent) (rs : List (Int × Int)) (wd : Addr) (w0 : Nat) (w1 : Nat) (w2 : Nat) (t0 : Tok) (t1 : Tok) (t2 : Tok) (ep : Nat) (Rl : Addr) (rvs : List Value) (er : Nat) (tb : Tok) (mean : ExcName → Option Value) (mg : Str → Option Value) (mb : Str → Option Value) (dp : Nat) (un : Nat) (gd : Option (List Code)) (cn : Str) (cs : Scope) (a : Addr) (ccd : Value) (cl' : List (Str × Addr)) (outer : List Env) (A₀ : Around) (base : Heap) (h₀ : Heap) (L : Addr) (m : Str → Option Value) (s : Shared) (Q : Value → Shared → Prop) (E : Value → Shared → Prop) : Prop :=
  ∀ (hkeys : runKeys rs = es.map (·.key)), ∀ (hsk : (es.map (·.key)).Pairwise (· < ·)), ∀ (hes : es.length ≤ 10), ∀ (hrp : ∀ r ∈ rs, 0 < r.2), ∀ (hks : ∀ e ∈ es, 0 ≤ e.key ∧ e.key ≤ 1000), ∀ (hw0 : w0 ≤ 10), ∀ (hw1 : w1 ≤ 10), ∀ (hw1p : 0 < w1), ∀ (hw2 : w2 ≤ 10), ∀ (hW : (wd, W.listOf #[.int (w0 : Int) t0, .int (w1 : Int) t1, .int (w2 : Int) t2] ep) ∈ news), ∀ (hR : (Rl, W.listOf rvs.toArray er) ∈ news), ∀ (hRI : IntsAre rvs (flat rs)), ∀ (hok : ∀ e ∈ es, IsWay e.way ∧ (w0 = 0 → e.way = Str.ofString "used") ∧ rst e.one w1 = 0 ∧ rst e.two w2 = 0), DoesB w 132 30 1200 news [.bytes (rowsB w0 w1 w2 es).toArray tb, .ref wd, .ref Rl] (fun v news' => ∃ (D : Addr) (oD : Obj) (kvs : List (Int × Value)) (rest : Led), v = .ref D ∧ news' = (D, oD) :: rest ∧ (∀ p ∈ news, p ∈ rest) ∧ (∀ p ∈ rest, @Ne Nat p.1 D) ∧ EntTab w news' D oD kvs es) mean mg mb dp un gd cn cs a ccd cl' outer A₀ base h₀ L m s Q E
noncomputable def Zeo_does.c : (World) × (Led) × (List Ent) × (List (Int × Int)) × (Addr) × (Nat) × (Nat) × (Nat) × (Tok) × (Tok) × (Tok) × (Nat) × (Addr) × (List Value) × (Nat) × (Tok) × (ExcName → Option Value) × (Str → Option Value) × (Str → Option Value) × (Nat) × (Nat) × (Option (List Code)) × (Str) × (Scope) × (Addr) × (Value) × (List (Str × Addr)) × (List Env) × (Around) × (Heap) × (Heap) × (Addr) × (Str → Option Value) × (Shared) × (Value → Shared → Prop) × (Value → Shared → Prop) :=
  @Classical.epsilon _ ⟨((aWorld 0 : World), (default : Led), (default : List Ent), (default : List (Int × Int)), (default : Addr), (default : Nat), (default : Nat), (default : Nat), (default : Tok), (default : Tok), (default : Tok), (default : Nat), (default : Addr), (default : List Value), (default : Nat), (default : Tok), (fun _ => none : ExcName → Option Value), (fun _ => none : Str → Option Value), (fun _ => none : Str → Option Value), (default : Nat), (default : Nat), (default : Option (List Code)), (default : Str), (default : Scope), (default : Addr), (default : Value), (default : List (Str × Addr)), (default : List Env), (callerA : Around), (default : Heap), (default : Heap), (default : Addr), (fun _ => none : Str → Option Value), ({} : Shared), (fun _ _ => True : Value → Shared → Prop), (fun _ _ => True : Value → Shared → Prop))⟩ fun x => ¬ Zeo_does.G (x.1) (x.2.1) (x.2.2.1) (x.2.2.2.1) (x.2.2.2.2.1) (x.2.2.2.2.2.1) (x.2.2.2.2.2.2.1) (x.2.2.2.2.2.2.2.1) (x.2.2.2.2.2.2.2.2.1) (x.2.2.2.2.2.2.2.2.2.1) (x.2.2.2.2.2.2.2.2.2.2.1) (x.2.2.2.2.2.2.2.2.2.2.2.1) (x.2.2.2.2.2.2.2.2.2.2.2.2.1) (x.2.2.2.2.2.2.2.2.2.2.2.2.2.1) (x.2.2.2.2.2.2.2.2.2.2.2.2.2.2.1) (x.2.2.2.2.2.2.2.2.2.2.2.2.2.2.2.1) (x.2.2.2.2.2.2.2.2.2.2.2.2.2.2.2.2.1) (x.2.2.2.2.2.2.2.2.2.2.2.2.2.2.2.2.2.1) (x.2.2.2.2.2.2.2.2.2.2.2.2.2.2.2.2.2.2.1) (x.2.2.2.2.2.2.2.2.2.2.2.2.2.2.2.2.2.2.2.1) (x.2.2.2.2.2.2.2.2.2.2.2.2.2.2.2.2.2.2.2.2.1) (x.2.2.2.2.2.2.2.2.2.2.2.2.2.2.2.2.2.2.2.2.2.1) (x.2.2.2.2.2.2.2.2.2.2.2.2.2.2.2.2.2.2.2.2.2.2.1) (x.2.2.2.2.2.2.2.2.2.2.2.2.2.2.2.2.2.2.2.2.2.2.2.1) (x.2.2.2.2.2.2.2.2.2.2.2.2.2.2.2.2.2.2.2.2.2.2.2.2.1) (x.2.2.2.2.2.2.2.2.2.2.2.2.2.2.2.2.2.2.2.2.2.2.2.2.2.1) (x.2.2.2.2.2.2.2.2.2.2.2.2.2.2.2.2.2.2.2.2.2.2.2.2.2.2.1) (x.2.2.2.2.2.2.2.2.2.2.2.2.2.2.2.2.2.2.2.2.2.2.2.2.2.2.2.1) (x.2.2.2.2.2.2.2.2.2.2.2.2.2.2.2.2.2.2.2.2.2.2.2.2.2.2.2.2.1) (x.2.2.2.2.2.2.2.2.2.2.2.2.2.2.2.2.2.2.2.2.2.2.2.2.2.2.2.2.2.1) (x.2.2.2.2.2.2.2.2.2.2.2.2.2.2.2.2.2.2.2.2.2.2.2.2.2.2.2.2.2.2.1) (x.2.2.2.2.2.2.2.2.2.2.2.2.2.2.2.2.2.2.2.2.2.2.2.2.2.2.2.2.2.2.2.1) (x.2.2.2.2.2.2.2.2.2.2.2.2.2.2.2.2.2.2.2.2.2.2.2.2.2.2.2.2.2.2.2.2.1) (x.2.2.2.2.2.2.2.2.2.2.2.2.2.2.2.2.2.2.2.2.2.2.2.2.2.2.2.2.2.2.2.2.2.1) (x.2.2.2.2.2.2.2.2.2.2.2.2.2.2.2.2.2.2.2.2.2.2.2.2.2.2.2.2.2.2.2.2.2.2.1) (x.2.2.2.2.2.2.2.2.2.2.2.2.2.2.2.2.2.2.2.2.2.2.2.2.2.2.2.2.2.2.2.2.2.2.2)
noncomputable def Zeo_does.V.w : World := Zeo_does.c.1
noncomputable def Zeo_does.V.news : Led := Zeo_does.c.2.1
noncomputable def Zeo_does.V.es : List Ent := Zeo_does.c.2.2.1
noncomputable def Zeo_does.V.rs : List (Int × Int) := Zeo_does.c.2.2.2.1
noncomputable def Zeo_does.V.wd : Addr := Zeo_does.c.2.2.2.2.1
noncomputable def Zeo_does.V.w0 : Nat := Zeo_does.c.2.2.2.2.2.1
noncomputable def Zeo_does.V.w1 : Nat := Zeo_does.c.2.2.2.2.2.2.1
noncomputable def Zeo_does.V.w2 : Nat := Zeo_does.c.2.2.2.2.2.2.2.1
noncomputable def Zeo_does.V.t0 : Tok := Zeo_does.c.2.2.2.2.2.2.2.2.1
noncomputable def Zeo_does.V.t1 : Tok := Zeo_does.c.2.2.2.2.2.2.2.2.2.1
noncomputable def Zeo_does.V.t2 : Tok := Zeo_does.c.2.2.2.2.2.2.2.2.2.2.1
noncomputable def Zeo_does.V.ep : Nat := Zeo_does.c.2.2.2.2.2.2.2.2.2.2.2.1
noncomputable def Zeo_does.V.Rl : Addr := Zeo_does.c.2.2.2.2.2.2.2.2.2.2.2.2.1
noncomputable def Zeo_does.V.rvs : List Value := Zeo_does.c.2.2.2.2.2.2.2.2.2.2.2.2.2.1
noncomputable def Zeo_does.V.er : Nat := Zeo_does.c.2.2.2.2.2.2.2.2.2.2.2.2.2.2.1
noncomputable def Zeo_does.V.tb : Tok := Zeo_does.c.2.2.2.2.2.2.2.2.2.2.2.2.2.2.2.1
noncomputable def Zeo_does.V.mean : ExcName → Option Value := Zeo_does.c.2.2.2.2.2.2.2.2.2.2.2.2.2.2.2.2.1
noncomputable def Zeo_does.V.mg : Str → Option Value := Zeo_does.c.2.2.2.2.2.2.2.2.2.2.2.2.2.2.2.2.2.1
noncomputable def Zeo_does.V.mb : Str → Option Value := Zeo_does.c.2.2.2.2.2.2.2.2.2.2.2.2.2.2.2.2.2.2.1
noncomputable def Zeo_does.V.dp : Nat := Zeo_does.c.2.2.2.2.2.2.2.2.2.2.2.2.2.2.2.2.2.2.2.1
noncomputable def Zeo_does.V.un : Nat := Zeo_does.c.2.2.2.2.2.2.2.2.2.2.2.2.2.2.2.2.2.2.2.2.1
noncomputable def Zeo_does.V.gd : Option (List Code) := Zeo_does.c.2.2.2.2.2.2.2.2.2.2.2.2.2.2.2.2.2.2.2.2.2.1
noncomputable def Zeo_does.V.cn : Str := Zeo_does.c.2.2.2.2.2.2.2.2.2.2.2.2.2.2.2.2.2.2.2.2.2.2.1
noncomputable def Zeo_does.V.cs : Scope := Zeo_does.c.2.2.2.2.2.2.2.2.2.2.2.2.2.2.2.2.2.2.2.2.2.2.2.1
noncomputable def Zeo_does.V.a : Addr := Zeo_does.c.2.2.2.2.2.2.2.2.2.2.2.2.2.2.2.2.2.2.2.2.2.2.2.2.1
noncomputable def Zeo_does.V.ccd : Value := Zeo_does.c.2.2.2.2.2.2.2.2.2.2.2.2.2.2.2.2.2.2.2.2.2.2.2.2.2.1
noncomputable def Zeo_does.V.cl' : List (Str × Addr) := Zeo_does.c.2.2.2.2.2.2.2.2.2.2.2.2.2.2.2.2.2.2.2.2.2.2.2.2.2.2.1
noncomputable def Zeo_does.V.outer : List Env := Zeo_does.c.2.2.2.2.2.2.2.2.2.2.2.2.2.2.2.2.2.2.2.2.2.2.2.2.2.2.2.1
noncomputable def Zeo_does.V.A₀ : Around := Zeo_does.c.2.2.2.2.2.2.2.2.2.2.2.2.2.2.2.2.2.2.2.2.2.2.2.2.2.2.2.2.1
noncomputable def Zeo_does.V.base : Heap := Zeo_does.c.2.2.2.2.2.2.2.2.2.2.2.2.2.2.2.2.2.2.2.2.2.2.2.2.2.2.2.2.2.1
noncomputable def Zeo_does.V.h₀ : Heap := Zeo_does.c.2.2.2.2.2.2.2.2.2.2.2.2.2.2.2.2.2.2.2.2.2.2.2.2.2.2.2.2.2.2.1
noncomputable def Zeo_does.V.L : Addr := Zeo_does.c.2.2.2.2.2.2.2.2.2.2.2.2.2.2.2.2.2.2.2.2.2.2.2.2.2.2.2.2.2.2.2.1
noncomputable def Zeo_does.V.m : Str → Option Value := Zeo_does.c.2.2.2.2.2.2.2.2.2.2.2.2.2.2.2.2.2.2.2.2.2.2.2.2.2.2.2.2.2.2.2.2.1
noncomputable def Zeo_does.V.s : Shared := Zeo_does.c.2.2.2.2.2.2.2.2.2.2.2.2.2.2.2.2.2.2.2.2.2.2.2.2.2.2.2.2.2.2.2.2.2.1
noncomputable def Zeo_does.V.Q : Value → Shared → Prop := Zeo_does.c.2.2.2.2.2.2.2.2.2.2.2.2.2.2.2.2.2.2.2.2.2.2.2.2.2.2.2.2.2.2.2.2.2.2.1
noncomputable def Zeo_does.V.E : Value → Shared → Prop := Zeo_does.c.2.2.2.2.2.2.2.2.2.2.2.2.2.2.2.2.2.2.2.2.2.2.2.2.2.2.2.2.2.2.2.2.2.2.2
section
open Zeo_does.V
set_option maxHeartbeats 8000000 in
theorem Zeo_does.main : Zeo_does.G Zeo_does.V.w Zeo_does.V.news Zeo_does.V.es Zeo_does.V.rs Zeo_does.V.wd Zeo_does.V.w0 Zeo_does.V.w1 Zeo_does.V.w2 Zeo_does.V.t0 Zeo_does.V.t1 Zeo_does.V.t2 Zeo_does.V.ep Zeo_does.V.Rl Zeo_does.V.rvs Zeo_does.V.er Zeo_does.V.tb Zeo_does.V.mean Zeo_does.V.mg Zeo_does.V.mb Zeo_does.V.dp Zeo_does.V.un Zeo_does.V.gd Zeo_does.V.cn Zeo_does.V.cs Zeo_does.V.a Zeo_does.V.ccd Zeo_does.V.cl' Zeo_does.V.outer Zeo_does.V.A₀ Zeo_does.V.base Zeo_does.V.h₀ Zeo_does.V.L Zeo_does.V.m Zeo_does.V.s Zeo_does.V.Q Zeo_does.V.E := by
  unfold Zeo_does.G DoesB
  k_fill
  intro hkeys hsk hes hrp hks hw0 hw1 hw1p hw2 hW hR hRI hok B F X N T hk hdp hun hret
  have hrl : rs.length ≤ 10 := by
    have h1 := runKeys_len hrp
    rw [hkeys, List.length_map] at h1
    omega
  have hfl := flat_length rs
  have hrvs := hRI.length
  have hbl := rowsB_length w0 w1 w2 es
  have hb9 : (rowsB w0 w1 w2 es).toArray.size ≤ 1000 := by
    rw [List.size_toArray, hbl]
    have h3 : es.length * (w0 + w1 + w2) ≤ 10 * 30 := Nat.mul_le_mul hes (by omega)
    omega
  refine wpAny_call ?_
  k_dflt cell_enter
  ((repeat' ( (fail_if_success (with_reducible show wpAny _ _ (pyIter (Value.ref _)) _ _ _)); (fail_if_success (with_reducible show wpAny _ _ (call (Value.ref 125) _) _ _ _)); (first | (k_unfold; (try dsimp only)) | (k_end; wrow_close) | ((with_reducible show wpAny _ _ (call (Value.builtin "len") _ _) _ _ _); (k_here; k_dflt (refine' len_lst ?my1 ?my2 ?my3 ?_; (case my1 => k_asm); (case my2 => k_mem); (case my3 => omega)))) | ((with_reducible show wpAny _ _ (setItem (Value.ref _) (Value.int _ _) _) _ _ _); (k_here; k_dflt (refine' kda_set (knd := PySem.intKind _ _) ?my1 ?my2 ?my3 ?my4 (intKind_is _ _ _ _) ?my5 ?_; (case my1 => k_asm); (case my2 => k_asm); (case my3 => k_updF); (case my4 => assumption); (case my5 => exact fit100' (by assumption))); intro h' o' F' N' hd'; (try dsimp only at N'))) | ((with_reducible show wpAny _ _ (compareOp CmpOp.In (Value.int _ _) (Value.ref _)) _ _ _); (k_here; k_dflt (refine' kda_in (knd := PySem.intKind _ _) ?my1 ?my2 ?my3 ?my4 (intKind_is _ _ _ _) false ?my5 ?_; (case my1 => k_asm); (case my2 => k_mem); (case my3 => assumption); (case my4 => assumption); (case my5 => assumption)))) | (k_here; (with_reducible show wpAny _ _ (subscriptTail _ (PySem.Expr.Slice _ _ none _) (Value.bytes _ _) (Value.ref _)) _ _ _); (with_reducible rename Fr _ _ _ _ => F'); (with_reducible rename News _ _ _ _ => N'); (refine KBc.slice_K (s := ⟨_, _, _, _, _⟩) F' N' rfl (by constructor) (by constructor) (ints_small (by assumption)) ?_); intro h9 t9 k9 F9 N9 kbcK; clear kbcK F' N'; (try (rename KBy.picked _ _ _ = _ => hpk9; rw [hpk9])); (try k_fold)) | (k_here; (with_reducible show wpAny _ _ (subscriptTail _ _ (Value.ref _) (Value.int _ _)) _ _ _); k_dflt (refine' item_ints ?my1 ?my2 ?my4 ?my5 ?my6 ?my7 ?_ ?my3; (case my1 => k_asm); (case my2 => k_mem); (case my4 => assumption); (case my5 => assumption); (case my6 => omega); (case my7 => omega); (case my3 => with_unfolding_all rfl)); intro t9) | (k_here; (with_reducible show wpAny _ _ (subscriptTail _ _ (Value.ref _) (Value.int _ _)) _ _ _); k_dflt (refine' item_lit ?my1 ?my2 ?my4 ?my5 ?my6 ?_ ?my3; (case my1 => k_asm); (case my2 => k_mem); (case my4 => decide); (case my5 => decide); (case my6 => rfl); (case my3 => with_unfolding_all rfl))) | walk1 | (dsimp only; walk1) | (leave1; walk_say "STEP leave1"; try dsimp only) | fail "no step"))); all_goals (try k_fold))
  (rename Fr _ _ _ _ => lF')
  (rename News _ _ _ _ => lN')
  (rename IsRange _ _ _ _ _ _ _ _ => lR)
  obtain ⟨K, oK, hKe, hoKe, -⟩ := led_o1 lN'
  subst hKe hoKe
  obtain ⟨D, oD, hDe, hoDe, -⟩ := led_o2 lN'
  subst hDe hoDe
  have hdK : Obj.IsDictOf (PySem.intKind prg w) oK [] := by assumption
  have hdD : Obj.IsDictOf (PySem.intKind prg w) oD [] := by assumption
  have hloK : (K == sysModules) = false := by assumption
  have hloD : (D == sysModules) = false := by assumption
  have hDK : @Ne Nat D K := by omega
  have hKD : @Ne Nat K D := by omega
  have hKn : ∀ p ∈ news, @Ne Nat p.1 K := allLt_ne (by (rename _ ∧ AllLt K news => hl9); exact hl9.2)
  have hDn : ∀ p ∈ news, @Ne Nat p.1 D := fun p hp => Nat.ne_of_lt ((by assumption : ∀ p ∈ news, p.1 < D) p hp)
  have lN2 : News _ _ _ ((D, oD) :: (K, oK) :: news) := news_sub lN' (by walk_at "MY sub")
  obtain ⟨sz, hsz⟩ : ∃ sz, sz = w0 + w1 + w2 := ⟨_, rfl⟩
  refine iter_range (n := rs.length) (RowsJ w news es rs sz D K)
    rfl lR (by rw [hrvs, hfl]; exact range2_small (by omega)) (by rw [hrvs, hfl]; exact range2_size _) lF' lN2 ⟨oD, oK, [], [], news, 0, _, rfl, fun _ h => h, hDn, hKn, hdD, hdK, .nil, rfl, by simp [runKeys], Like.start ⟨rfl, rfl, rfl, trivial⟩⟩ ?_ ?_
  · rintro i t m₁ _ I oI h tk QT hQT hi ⟨oD, oK, kvsD, kvsK, rest, X, tx, rfl, hb, hrD, hrK, hdD, hdK, hEn, hKk, hX, hL⟩ ho F₁ N₁
    have F₂ := hL.turn F₁
    simp only [upd] at F₂
    obtain ⟨⟨a, c⟩, hri⟩ : ∃ r, rs[i]? = some r := ⟨_, List.getElem?_eq_getElem hi⟩
    obtain ⟨hf1, hf2⟩ := flat_at rs i _ hri
    have hx1 : (flat rs)[((0 : Int) + (i : Int) * 2).toNat]? = some a := by rw [show ((0 : Int) + (i : Int) * 2).toNat = 2 * i by omega]; exact hf1
    have hx2 : (flat rs)[((0 : Int) + (i : Int) * 2 + 1).toNat]? = some c := by rw [show ((0 : Int) + (i : Int) * 2 + 1).toNat = 2 * i + 1 by omega]; exact hf2
    obtain ⟨hl1, hl2⟩ := run_len hkeys hri
    have hc := hrp _ (List.mem_of_getElem? hri)
    dsimp only at hl1 hl2 hc
    have hR2 := hb _ hR
    have hW2 := hb _ hW
    have hcn : ((c.toNat : Nat) : Int) = c := Int.toNat_of_nonneg (by omega)
    have hroom : X + ((w0 : Int) + (w1 : Int) + (w2 : Int)) * c ≤ ((rowsB w0 w1 w2 es).length : Int) := by
      rw [hX, hbl, ← hsz]
      have e1 : ((w0 : Int) + (w1 : Int) + (w2 : Int)) = (sz : Int) := by omega
      have h3 : ((runKeys (rs.take i)).length + c.toNat) * sz ≤ es.length * sz := Nat.mul_le_mul_right _ hl1
      rw [e1, ← hcn]
      have h4 : (((runKeys (rs.take i)).length + c.toNat) * sz : Nat) = (runKeys (rs.take i)).length * sz + sz * c.toNat := by rw [Nat.add_mul, Nat.mul_comm sz]
      have h5 : (((runKeys (rs.take i)).length * sz + sz * c.toNat : Nat) : Int) ≤ ((es.length * sz : Nat) : Int) := by rw [← h4]; exact_mod_cast h3
      push_cast at h5 ⊢
      exact h5
    have hs0 : (w0 : Int) + (w1 : Int) + (w2 : Int) ≠ 0 := by omega
    clear F₁ lF' lN' lN2
    try k_fold
    ((repeat' ( (fail_if_success (with_reducible show wpAny _ _ (pyIter (Value.ref _)) _ _ _)); (fail_if_success (with_reducible show wpAny _ _ (call (Value.ref 125) _) _ _ _)); (first | (k_unfold; (try dsimp only)) | (k_end; wrow_close) | ((with_reducible show wpAny _ _ (call (Value.builtin "len") _ _) _ _ _); (k_here; k_dflt (refine' len_lst ?my1 ?my2 ?my3 ?_; (case my1 => k_asm); (case my2 => k_mem); (case my3 => omega)))) | ((with_reducible show wpAny _ _ (setItem (Value.ref _) (Value.int _ _) _) _ _ _); (k_here; k_dflt (refine' kda_set (knd := PySem.intKind _ _) ?my1 ?my2 ?my3 ?my4 (intKind_is _ _ _ _) ?my5 ?_; (case my1 => k_asm); (case my2 => k_asm); (case my3 => k_updF); (case my4 => assumption); (case my5 => exact fit100' (by assumption))); intro h' o' F' N' hd'; (try dsimp only at N'))) | ((with_reducible show wpAny _ _ (compareOp CmpOp.In (Value.int _ _) (Value.ref _)) _ _ _); (k_here; k_dflt (refine' kda_in (knd := PySem.intKind _ _) ?my1 ?my2 ?my3 ?my4 (intKind_is _ _ _ _) false ?my5 ?_; (case my1 => k_asm); (case my2 => k_mem); (case my3 => assumption); (case my4 => assumption); (case my5 => assumption)))) | (k_here; (with_reducible show wpAny _ _ (subscriptTail _ (PySem.Expr.Slice _ _ none _) (Value.bytes _ _) (Value.ref _)) _ _ _); (with_reducible rename Fr _ _ _ _ => F'); (with_reducible rename News _ _ _ _ => N'); (refine KBc.slice_K (s := ⟨_, _, _, _, _⟩) F' N' rfl (by constructor) (by constructor) (ints_small (by assumption)) ?_); intro h9 t9 k9 F9 N9 kbcK; clear kbcK F' N'; (try (rename KBy.picked _ _ _ = _ => hpk9; rw [hpk9])); (try k_fold)) | (k_here; (with_reducible show wpAny _ _ (subscriptTail _ _ (Value.ref _) (Value.int _ _)) _ _ _); k_dflt (refine' item_ints ?my1 ?my2 ?my4 ?my5 ?my6 ?my7 ?_ ?my3; (case my1 => k_asm); (case my2 => k_mem); (case my4 => assumption); (case my5 => assumption); (case my6 => omega); (case my7 => omega); (case my3 => with_unfolding_all rfl)); intro t9) | (k_here; (with_reducible show wpAny _ _ (subscriptTail _ _ (Value.ref _) (Value.int _ _)) _ _ _); k_dflt (refine' item_lit ?my1 ?my2 ?my4 ?my5 ?my6 ?_ ?my3; (case my1 => k_asm); (case my2 => k_mem); (case my4 => decide); (case my5 => decide); (case my6 => rfl); (case my3 => with_unfolding_all rfl))) | walk1 | (dsimp only; walk1) | (leave1; walk_say "STEP leave1"; try dsimp only) | fail "no step"))); all_goals (try k_fold))
    · exfalso; omega
    (rename IsRange _ _ _ _ _ _ _ _ => lR)
    (rename Fr _ _ _ _ => lF')
    (rename News _ _ _ _ => lN')
    have hDI : NeA D I := ho _ (.head _)
    have hKI : NeA K I := ho _ (.tail _ (.head _))
    have hrI : ∀ p ∈ rest, @Ne Nat p.1 I := fun p hp => ho p (.tail _ (.tail _ hp))
    obtain ⟨j0, hj0⟩ : ∃ j0, j0 = (runKeys (rs.take i)).length := ⟨_, rfl⟩
    rw [← hj0] at hEn hKk hX hl1 hl2
    obtain ⟨e0, he0, hke0⟩ := run_row hkeys hri (q := 0) (by dsimp only; omega)
    obtain ⟨e1, he1, hke1⟩ := run_row hkeys hri (q := c.toNat - 1) (by dsimp only; omega)
    have hb0 := hks _ (List.mem_of_getElem? he0)
    have hb1 := hks _ (List.mem_of_getElem? he1)
    dsimp only at hke0 hke1
    refine iter_range (n := c.toNat) (RowJ w news es sz j0 I oI D K)
      rfl lR (range_small (by omega) (by omega) (by omega) (by omega)) (by rw [range_size (by omega)]; congr 1; omega) lF' lN' ⟨oD, oK, kvsD, kvsK, rest, X, tx, rfl, hb, hrD, hrK, hrI, hdD, hdK, hEn, hKk, hX, Like.start ⟨rfl, rfl, trivial⟩⟩ ?_ ?_
    · clear hR2 hW2 hroom hEn hKk hX hdD hdK hrD hrK hrI hb lF' lN' hL ho
      rintro q t m₁ _ I2 oI2 h tk QT2 hQT2 hq ⟨oD, oK, kvsD, kvsK, rest, X, tx, rfl, hb, hrD, hrK, hrI, hdD, hdK, hEn, hKk, hX, hL⟩ ho F₁ N₁
      have F₂ := hL.turn F₁
      simp only [upd] at F₂
      obtain ⟨e, he, hke⟩ := run_row hkeys hri (q := q) (by dsimp only; omega)
      rw [← hj0] at he
      dsimp only at hke
      rw [show a + (q : Int) * 1 = e.key by omega] at F₂
      have hkn := key_new hsk he
      have hkD := hEn.keys
      have hkDn : e.key ∉ kvsD.map (·.1) := by rw [hkD]; exact hkn
      have hkKn : e.key ∉ kvsK.map (·.1) := by rw [hKk]; exact hkn
      have hin := valueAt_none hkKn
      have hlD : kvsD.length ≤ 100 := by
        have h1 := hEn.length
        rw [List.length_take] at h1
        omega
      have hlK : kvsK.length ≤ 100 := by
        have h1 := congrArg List.length hKk
        rw [List.length_map, List.length_map, List.length_take] at h1
        omega
      have hII : NeA I I2 := ho _ (.head _)
      have hDI2 : NeA D I2 := ho _ (.tail _ (.head _))
      have hKI2 : NeA K I2 := ho _ (.tail _ (.tail _ (.head _)))
      have hrI2 : ∀ p ∈ rest, @Ne Nat p.1 I2 := fun p hp => ho p (.tail _ (.tail _ (.tail _ hp)))
      have hR2 := hb _ hR
      have hW2 := hb _ hW
      obtain ⟨k, hk3, hkw, hkx⟩ := way_k (hok e (List.mem_of_getElem? he)).1
      have hpk : KBy.picked (rowsB w0 w1 w2 es).toArray (some X) (some (X + ((w0 : Int) + (w1 : Int) + (w2 : Int)))) = (rowB w0 w1 w2 e).toArray := by
        have e1 : X + ((w0 : Int) + (w1 : Int) + (w2 : Int)) = (((j0 + q) * sz + sz : Nat) : Int) := by rw [hX]; push_cast; omega
        rw [e1, hX, picked_mid]
        have e2 : (j0 + q) * sz + sz - (j0 + q) * sz = sz := by omega
        rw [e2, hsz, rowsB_at w0 w1 w2 es _ e he]
      have hro := row_one (w0 := w0) (w1 := w1) (w2 := w2) (e := e) (b := (rowB w0 w1 w2 e).toArray) rfl (hok e (List.mem_of_getElem? he)).2.2.1
      have hrt := row_two (w0 := w0) (w1 := w1) (w2 := w2) (e := e) (b := (rowB w0 w1 w2 e).toArray) rfl (hok e (List.mem_of_getElem? he)).2.2.2
      have hrl := rowB_len w0 w1 w2 e
      have hrb : (rowB w0 w1 w2 e).toArray.size ≤ 40 := by rw [List.size_toArray, hrl]; omega
      clear F₁ hL
      try k_fold
      ((repeat' ( (fail_if_success (with_reducible show wpAny _ _ (pyIter (Value.ref _)) _ _ _)); (fail_if_success (with_reducible show wpAny _ _ (call (Value.ref 125) _) _ _ _)); (first | (k_unfold; (try dsimp only)) | (k_end; wrow_close) | ((with_reducible show wpAny _ _ (call (Value.builtin "len") _ _) _ _ _); (k_here; k_dflt (refine' len_lst ?my1 ?my2 ?my3 ?_; (case my1 => k_asm); (case my2 => k_mem); (case my3 => omega)))) | ((with_reducible show wpAny _ _ (setItem (Value.ref _) (Value.int _ _) _) _ _ _); (k_here; k_dflt (refine' kda_set (knd := PySem.intKind _ _) ?my1 ?my2 ?my3 ?my4 (intKind_is _ _ _ _) ?my5 ?_; (case my1 => k_asm); (case my2 => k_asm); (case my3 => k_updF); (case my4 => assumption); (case my5 => exact fit100' (by assumption))); intro h' o' F' N' hd'; (try dsimp only at N'))) | ((with_reducible show wpAny _ _ (compareOp CmpOp.In (Value.int _ _) (Value.ref _)) _ _ _); (k_here; k_dflt (refine' kda_in (knd := PySem.intKind _ _) ?my1 ?my2 ?my3 ?my4 (intKind_is _ _ _ _) false ?my5 ?_; (case my1 => k_asm); (case my2 => k_mem); (case my3 => assumption); (case my4 => assumption); (case my5 => assumption)))) | (k_here; (with_reducible show wpAny _ _ (subscriptTail _ (PySem.Expr.Slice _ _ none _) (Value.bytes _ _) (Value.ref _)) _ _ _); (with_reducible rename Fr _ _ _ _ => F'); (with_reducible rename News _ _ _ _ => N'); (refine KBc.slice_K (s := ⟨_, _, _, _, _⟩) F' N' rfl (by constructor) (by constructor) (ints_small (by assumption)) ?_); intro h9 t9 k9 F9 N9 kbcK; clear kbcK F' N'; (try (rename KBy.picked _ _ _ = _ => hpk9; rw [hpk9])); (try k_fold)) | (k_here; (with_reducible show wpAny _ _ (subscriptTail _ _ (Value.ref _) (Value.int _ _)) _ _ _); k_dflt (refine' item_ints ?my1 ?my2 ?my4 ?my5 ?my6 ?my7 ?_ ?my3; (case my1 => k_asm); (case my2 => k_mem); (case my4 => assumption); (case my5 => assumption); (case my6 => omega); (case my7 => omega); (case my3 => with_unfolding_all rfl)); intro t9) | (k_here; (with_reducible show wpAny _ _ (subscriptTail _ _ (Value.ref _) (Value.int _ _)) _ _ _); k_dflt (refine' item_lit ?my1 ?my2 ?my4 ?my5 ?my6 ?_ ?my3; (case my1 => k_asm); (case my2 => k_mem); (case my4 => decide); (case my5 => decide); (case my6 => rfl); (case my3 => with_unfolding_all rfl))) | walk1 | (dsimp only; walk1) | (leave1; walk_say "STEP leave1"; try dsimp only) | fail "no step"))); all_goals (try k_fold))
      refine' does_use (re_does w _ (rowB w0 w1 w2 e).toArray _ wd w0 w1 w2 t0 t1 t2 ep hrb (by omega) (by omega) k hk3 e.one e.two ?z3 ?z1 ?z2 hro hrt) ?k1 ?k2 ?k3 ?k4 ?k5 ?k6 ?k7 ?k8 ?_
      case z1 => exact (fun h0 => by
        have h1 := (hok e (List.mem_of_getElem? he)).2.1 h0
        have h2 : wayIx e.way = 1 := by rw [h1]; exact wayIx_used
        omega)
      case z2 => exact (fun h0 => by
        rw [row_way (w0 := w0) (w1 := w1) (w2 := w2) (e := e) (b := (rowB w0 w1 w2 e).toArray) rfl ?_, hkx]
        rw [hkx]; exact rst_small (by omega) (by omega) h0)
      walk_at "MY sides"
      case z3 => walk_at "MY in"
      rintro v9 news9 h9 tk9 ⟨x, d, a1, a2, a3, a4, a5, a6, rfl, rfl, l1, l2⟩ F9 N9
      have lD : @LT.lt Nat _ D d := l1 (D, oD) (by walk_at "MY in")
      have lK : @LT.lt Nat _ K d := l1 (K, _) (.tail _ (.tail _ (.tail _ (.head _))))
      have lI : @LT.lt Nat _ I d := l1 (I, oI) (by walk_at "MY in")
      have lI2 : @LT.lt Nat _ I2 d := l1 (I2, oI2) (by walk_at "MY in")
      have lrst : ∀ p ∈ rest, @LT.lt Nat _ p.1 d := fun p hp => l1 p (by walk_at "MY in")
      have hDd : NeA D d := Nat.ne_of_lt lD
      have hDx : NeA D x := Nat.ne_of_lt (Nat.lt_trans lD l2)
      have hKd : NeA K d := Nat.ne_of_lt lK
      have hKx : NeA K x := Nat.ne_of_lt (Nat.lt_trans lK l2)
      have hId : NeA I d := Nat.ne_of_lt lI
      have hIx : NeA I x := Nat.ne_of_lt (Nat.lt_trans lI l2)
      have hI2d : NeA I2 d := Nat.ne_of_lt lI2
      have hI2x : NeA I2 x := Nat.ne_of_lt (Nat.lt_trans lI2 l2)
      have hxD := hDx.symm
      have hdD2 := hDd.symm
      try k_fold
      ((repeat' ( (fail_if_success (with_reducible show wpAny _ _ (pyIter (Value.ref _)) _ _ _)); (fail_if_success (with_reducible show wpAny _ _ (call (Value.ref 125) _) _ _ _)); (first | (k_unfold; (try dsimp only)) | (k_end; wrow_close) | ((with_reducible show wpAny _ _ (call (Value.builtin "len") _ _) _ _ _); (k_here; k_dflt (refine' len_lst ?my1 ?my2 ?my3 ?_; (case my1 => k_asm); (case my2 => k_mem); (case my3 => omega)))) | ((with_reducible show wpAny _ _ (setItem (Value.ref _) (Value.int _ _) _) _ _ _); (k_here; k_dflt (refine' kda_set (knd := PySem.intKind _ _) ?my1 ?my2 ?my3 ?my4 (intKind_is _ _ _ _) ?my5 ?_; (case my1 => k_asm); (case my2 => k_asm); (case my3 => k_updF); (case my4 => assumption); (case my5 => exact fit100' (by assumption))); intro h' o' F' N' hd'; (try dsimp only at N'))) | ((with_reducible show wpAny _ _ (compareOp CmpOp.In (Value.int _ _) (Value.ref _)) _ _ _); (k_here; k_dflt (refine' kda_in (knd := PySem.intKind _ _) ?my1 ?my2 ?my3 ?my4 (intKind_is _ _ _ _) false ?my5 ?_; (case my1 => k_asm); (case my2 => k_mem); (case my3 => assumption); (case my4 => assumption); (case my5 => assumption)))) | (k_here; (with_reducible show wpAny _ _ (subscriptTail _ (PySem.Expr.Slice _ _ none _) (Value.bytes _ _) (Value.ref _)) _ _ _); (with_reducible rename Fr _ _ _ _ => F'); (with_reducible rename News _ _ _ _ => N'); (refine KBc.slice_K (s := ⟨_, _, _, _, _⟩) F' N' rfl (by constructor) (by constructor) (ints_small (by assumption)) ?_); intro h9 t9 k9 F9 N9 kbcK; clear kbcK F' N'; (try (rename KBy.picked _ _ _ = _ => hpk9; rw [hpk9])); (try k_fold)) | (k_here; (with_reducible show wpAny _ _ (subscriptTail _ _ (Value.ref _) (Value.int _ _)) _ _ _); k_dflt (refine' item_ints ?my1 ?my2 ?my4 ?my5 ?my6 ?my7 ?_ ?my3; (case my1 => k_asm); (case my2 => k_mem); (case my4 => assumption); (case my5 => assumption); (case my6 => omega); (case my7 => omega); (case my3 => with_unfolding_all rfl)); intro t9) | (k_here; (with_reducible show wpAny _ _ (subscriptTail _ _ (Value.ref _) (Value.int _ _)) _ _ _); k_dflt (refine' item_lit ?my1 ?my2 ?my4 ?my5 ?my6 ?_ ?my3; (case my1 => k_asm); (case my2 => k_mem); (case my4 => decide); (case my5 => decide); (case my6 => rfl); (case my3 => with_unfolding_all rfl))) | walk1 | (dsimp only; walk1) | (leave1; walk_say "STEP leave1"; try dsimp only) | fail "no step"))); all_goals (try k_fold))
      (rename Fr _ _ _ _ => lF')
      (rename News _ _ _ _ => lN')
      (rename Obj.IsDictOf _ _ (stored kvsD e.key (Value.ref x)) => hdD')
      (rename Obj.IsDictOf _ _ (stored kvsK e.key _) => hdK')
      rw [hkw] at lN'
      rw [stored_new hkDn] at hdD'
      rw [stored_new hkKn] at hdK'
      have htk : es.take (j0 + (q + 1)) = es.take (j0 + q) ++ [e] := by
        rw [← Nat.add_assoc, List.take_add_one, he]; rfl
      have lN3 := news_sub (news' := (I2, oI2) :: (I, oI) :: (D, _) :: (K, _) :: (x, _) :: (d, _) :: rest) lN' (by walk_at "MY sub")
      refine hQT2 _ _ <| TurnEnd.next lF' lN3 (fun p hp => nomatch hp) ?_ ⟨_, _, _, _, (x, _) :: (d, _) :: rest, _, _, rfl, fun p hp => .tail _ (.tail _ (hb p hp)), ?_, ?_, ?_, hdD', hdK', ?_, ?_, ?_, ⟨rfl, rfl, trivial⟩, by intro z hx hz; simp only [Off] at hz; simp [hx, hz]⟩
      · exact List.forall_mem_cons.mpr ⟨hII, List.forall_mem_cons.mpr ⟨hDI2, List.forall_mem_cons.mpr ⟨hKI2, List.forall_mem_cons.mpr ⟨hI2x.symm, List.forall_mem_cons.mpr ⟨hI2d.symm, hrI2⟩⟩⟩⟩⟩
      · exact List.forall_mem_cons.mpr ⟨hxD, List.forall_mem_cons.mpr ⟨hdD2, hrD⟩⟩
      · exact List.forall_mem_cons.mpr ⟨hKx.symm, List.forall_mem_cons.mpr ⟨hKd.symm, hrK⟩⟩
      · exact List.forall_mem_cons.mpr ⟨hIx.symm, List.forall_mem_cons.mpr ⟨hId.symm, hrI⟩⟩
      · rw [htk]
        exact (hEn.mono fun p hp => .tail _ (.tail _ hp)).snoc ⟨d, a1, a2, a3, a4, a5, a6, .head _, .tail _ (.head _)⟩
      · rw [htk, List.map_append, List.map_append, hKk]; rfl
      · rw [hX, ← Nat.add_assoc, Nat.succ_mul, hsz]; push_cast; rfl
    · clear hR2 hW2 hroom hEn hKk hX hdD hdK hrD hrK hb lF' lN' hL
      rintro h tk m' _ ⟨oD, oK, kvsD, kvsK, rest, X, tx, rfl, hb, hrD, hrK, hrI, hdD, hdK, hEn, hKk, hX, hL⟩ F₁ N₁
      have F₂ := hL.out F₁
      simp only [upd] at F₂
      dsimp only
      clear F₁ hL
      try k_fold
      ((repeat' ( (fail_if_success (with_reducible show wpAny _ _ (pyIter (Value.ref _)) _ _ _)); (fail_if_success (with_reducible show wpAny _ _ (call (Value.ref 125) _) _ _ _)); (first | (k_unfold; (try dsimp only)) | (k_end; wrow_close) | ((with_reducible show wpAny _ _ (call (Value.builtin "len") _ _) _ _ _); (k_here; k_dflt (refine' len_lst ?my1 ?my2 ?my3 ?_; (case my1 => k_asm); (case my2 => k_mem); (case my3 => omega)))) | ((with_reducible show wpAny _ _ (setItem (Value.ref _) (Value.int _ _) _) _ _ _); (k_here; k_dflt (refine' kda_set (knd := PySem.intKind _ _) ?my1 ?my2 ?my3 ?my4 (intKind_is _ _ _ _) ?my5 ?_; (case my1 => k_asm); (case my2 => k_asm); (case my3 => k_updF); (case my4 => assumption); (case my5 => exact fit100' (by assumption))); intro h' o' F' N' hd'; (try dsimp only at N'))) | ((with_reducible show wpAny _ _ (compareOp CmpOp.In (Value.int _ _) (Value.ref _)) _ _ _); (k_here; k_dflt (refine' kda_in (knd := PySem.intKind _ _) ?my1 ?my2 ?my3 ?my4 (intKind_is _ _ _ _) false ?my5 ?_; (case my1 => k_asm); (case my2 => k_mem); (case my3 => assumption); (case my4 => assumption); (case my5 => assumption)))) | (k_here; (with_reducible show wpAny _ _ (subscriptTail _ (PySem.Expr.Slice _ _ none _) (Value.bytes _ _) (Value.ref _)) _ _ _); (with_reducible rename Fr _ _ _ _ => F'); (with_reducible rename News _ _ _ _ => N'); (refine KBc.slice_K (s := ⟨_, _, _, _, _⟩) F' N' rfl (by constructor) (by constructor) (ints_small (by assumption)) ?_); intro h9 t9 k9 F9 N9 kbcK; clear kbcK F' N'; (try (rename KBy.picked _ _ _ = _ => hpk9; rw [hpk9])); (try k_fold)) | (k_here; (with_reducible show wpAny _ _ (subscriptTail _ _ (Value.ref _) (Value.int _ _)) _ _ _); k_dflt (refine' item_ints ?my1 ?my2 ?my4 ?my5 ?my6 ?my7 ?_ ?my3; (case my1 => k_asm); (case my2 => k_mem); (case my4 => assumption); (case my5 => assumption); (case my6 => omega); (case my7 => omega); (case my3 => with_unfolding_all rfl)); intro t9) | (k_here; (with_reducible show wpAny _ _ (subscriptTail _ _ (Value.ref _) (Value.int _ _)) _ _ _); k_dflt (refine' item_lit ?my1 ?my2 ?my4 ?my5 ?my6 ?_ ?my3; (case my1 => k_asm); (case my2 => k_mem); (case my4 => decide); (case my5 => decide); (case my6 => rfl); (case my3 => with_unfolding_all rfl))) | walk1 | (dsimp only; walk1) | (leave1; walk_say "STEP leave1"; try dsimp only) | fail "no step"))); all_goals (try k_fold))
      (rename Fr _ _ _ _ => lF')
      rw [← hl2] at hEn hKk hX
      exact hQT _ _ <| TurnEnd.next lF' N₁ (fun p hp => nomatch hp) (List.forall_mem_cons.mpr ⟨hDI, List.forall_mem_cons.mpr ⟨hKI, hrI⟩⟩) ⟨_, _, _, _, rest, _, _, rfl, hb, hrD, hrK, hdD, hdK, hEn, hKk, hX, ⟨rfl, rfl, rfl, trivial⟩, by intro z hx hz; simp only [Off] at hz; simp [hx, hz]⟩
  · rintro h tk m' _ ⟨oD, oK, kvsD, kvsK, rest, X, tx, rfl, hb, hrD, hrK, hdD, hdK, hEn, hKk, hX, hL⟩ F₁ N₁
    have F₂ := hL.out F₁
    simp only [upd] at F₂
    dsimp only
    have hall : es.take (runKeys (rs.take rs.length)).length = es := by
      rw [List.take_length, hkeys, List.length_map, List.take_length]
    rw [hall] at hEn
    clear F₁ hL lF' lN' lN2
    try k_fold
    ((repeat' ( (fail_if_success (with_reducible show wpAny _ _ (pyIter (Value.ref _)) _ _ _)); (fail_if_success (with_reducible show wpAny _ _ (call (Value.ref 125) _) _ _ _)); (first | (k_unfold; (try dsimp only)) | (k_end; wrow_close) | ((with_reducible show wpAny _ _ (call (Value.builtin "len") _ _) _ _ _); (k_here; k_dflt (refine' len_lst ?my1 ?my2 ?my3 ?_; (case my1 => k_asm); (case my2 => k_mem); (case my3 => omega)))) | ((with_reducible show wpAny _ _ (setItem (Value.ref _) (Value.int _ _) _) _ _ _); (k_here; k_dflt (refine' kda_set (knd := PySem.intKind _ _) ?my1 ?my2 ?my3 ?my4 (intKind_is _ _ _ _) ?my5 ?_; (case my1 => k_asm); (case my2 => k_asm); (case my3 => k_updF); (case my4 => assumption); (case my5 => exact fit100' (by assumption))); intro h' o' F' N' hd'; (try dsimp only at N'))) | ((with_reducible show wpAny _ _ (compareOp CmpOp.In (Value.int _ _) (Value.ref _)) _ _ _); (k_here; k_dflt (refine' kda_in (knd := PySem.intKind _ _) ?my1 ?my2 ?my3 ?my4 (intKind_is _ _ _ _) false ?my5 ?_; (case my1 => k_asm); (case my2 => k_mem); (case my3 => assumption); (case my4 => assumption); (case my5 => assumption)))) | (k_here; (with_reducible show wpAny _ _ (subscriptTail _ (PySem.Expr.Slice _ _ none _) (Value.bytes _ _) (Value.ref _)) _ _ _); (with_reducible rename Fr _ _ _ _ => F'); (with_reducible rename News _ _ _ _ => N'); (refine KBc.slice_K (s := ⟨_, _, _, _, _⟩) F' N' rfl (by constructor) (by constructor) (ints_small (by assumption)) ?_); intro h9 t9 k9 F9 N9 kbcK; clear kbcK F' N'; (try (rename KBy.picked _ _ _ = _ => hpk9; rw [hpk9])); (try k_fold)) | (k_here; (with_reducible show wpAny _ _ (subscriptTail _ _ (Value.ref _) (Value.int _ _)) _ _ _); k_dflt (refine' item_ints ?my1 ?my2 ?my4 ?my5 ?my6 ?my7 ?_ ?my3; (case my1 => k_asm); (case my2 => k_mem); (case my4 => assumption); (case my5 => assumption); (case my6 => omega); (case my7 => omega); (case my3 => with_unfolding_all rfl)); intro t9) | (k_here; (with_reducible show wpAny _ _ (subscriptTail _ _ (Value.ref _) (Value.int _ _)) _ _ _); k_dflt (refine' item_lit ?my1 ?my2 ?my4 ?my5 ?my6 ?_ ?my3; (case my1 => k_asm); (case my2 => k_mem); (case my4 => decide); (case my5 => decide); (case my6 => rfl); (case my3 => with_unfolding_all rfl))) | walk1 | (dsimp only; walk1) | (leave1; walk_say "STEP leave1"; try dsimp only) | fail "no step"))); all_goals (try k_fold))
    refine hret _ _ _ _ ⟨D, oD, kvsD, (K, oK) :: rest, rfl, rfl, fun p hp => .tail _ (hb p hp), List.forall_mem_cons.mpr ⟨hKD, hrD⟩, ⟨.head _, hdD, hloD, hEn.mono fun p hp => .tail _ (.tail _ hp)⟩⟩ (by k_asm) (by k_asm)
end
theorem eo_does (w : World) (news : Led) (es : List Ent) (rs : List (Int × Int)) (hkeys : runKeys rs = es.map (·.key)) (hsk : (es.map (·.key)).Pairwise (· < ·)) (hes : es.length ≤ 10) (hrp : ∀ r ∈ rs, 0 < r.2) (hks : ∀ e ∈ es, 0 ≤ e.key ∧ e.key ≤ 1000)
    (wd : Addr) (w0 w1 w2 : Nat) (t0 t1 t2 : Tok) (ep : Nat) (hw0 : w0 ≤ 10) (hw1 : w1 ≤ 10) (hw1p : 0 < w1) (hw2 : w2 ≤ 10) (hW : (wd, W.listOf #[.int (w0 : Int) t0, .int (w1 : Int) t1, .int (w2 : Int) t2] ep) ∈ news)
    (Rl : Addr) (rvs : List Value) (er : Nat) (hR : (Rl, W.listOf rvs.toArray er) ∈ news) (hRI : IntsAre rvs (flat rs)) (tb : Tok)
    (hok : ∀ e ∈ es, IsWay e.way ∧ (w0 = 0 → e.way = Str.ofString "used") ∧ rst e.one w1 = 0 ∧ rst e.two w2 = 0) :
    Does w 132 30 1200 news [.bytes (rowsB w0 w1 w2 es).toArray tb, .ref wd, .ref Rl] (fun v news' => ∃ (D : Addr) (oD : Obj) (kvs : List (Int × Value)) (rest : Led), v = .ref D ∧ news' = (D, oD) :: rest ∧ (∀ p ∈ news, p ∈ rest) ∧ (∀ p ∈ rest, @Ne Nat p.1 D) ∧ EntTab w news' D oD kvs es) := by
  intro mean mg mb dp un gd cn cs a ccd cl' outer A₀ base h₀ L m s Q E
  exact (Classical.byContradiction fun hn => @Classical.epsilon_spec _ (fun x : (World) × (Led) × (List Ent) × (List (Int × Int)) × (Addr) × (Nat) × (Nat) × (Nat) × (Tok) × (Tok) × (Tok) × (Nat) × (Addr) × (List Value) × (Nat) × (Tok) × (ExcName → Option Value) × (Str → Option Value) × (Str → Option Value) × (Nat) × (Nat) × (Option (List Code)) × (Str) × (Scope) × (Addr) × (Value) × (List (Str × Addr)) × (List Env) × (Around) × (Heap) × (Heap) × (Addr) × (Str → Option Value) × (Shared) × (Value → Shared → Prop) × (Value → Shared → Prop) => ¬ Zeo_does.G (x.1) (x.2.1) (x.2.2.1) (x.2.2.2.1) (x.2.2.2.2.1) (x.2.2.2.2.2.1) (x.2.2.2.2.2.2.1) (x.2.2.2.2.2.2.2.1) (x.2.2.2.2.2.2.2.2.1) (x.2.2.2.2.2.2.2.2.2.1) (x.2.2.2.2.2.2.2.2.2.2.1) (x.2.2.2.2.2.2.2.2.2.2.2.1) (x.2.2.2.2.2.2.2.2.2.2.2.2.1) (x.2.2.2.2.2.2.2.2.2.2.2.2.2.1) (x.2.2.2.2.2.2.2.2.2.2.2.2.2.2.1) (x.2.2.2.2.2.2.2.2.2.2.2.2.2.2.2.1) (x.2.2.2.2.2.2.2.2.2.2.2.2.2.2.2.2.1) (x.2.2.2.2.2.2.2.2.2.2.2.2.2.2.2.2.2.1) (x.2.2.2.2.2.2.2.2.2.2.2.2.2.2.2.2.2.2.1) (x.2.2.2.2.2.2.2.2.2.2.2.2.2.2.2.2.2.2.2.1) (x.2.2.2.2.2.2.2.2.2.2.2.2.2.2.2.2.2.2.2.2.1) (x.2.2.2.2.2.2.2.2.2.2.2.2.2.2.2.2.2.2.2.2.2.1) (x.2.2.2.2.2.2.2.2.2.2.2.2.2.2.2.2.2.2.2.2.2.2.1) (x.2.2.2.2.2.2.2.2.2.2.2.2.2.2.2.2.2.2.2.2.2.2.2.1) (x.2.2.2.2.2.2.2.2.2.2.2.2.2.2.2.2.2.2.2.2.2.2.2.2.1) (x.2.2.2.2.2.2.2.2.2.2.2.2.2.2.2.2.2.2.2.2.2.2.2.2.2.1) (x.2.2.2.2.2.2.2.2.2.2.2.2.2.2.2.2.2.2.2.2.2.2.2.2.2.2.1) (x.2.2.2.2.2.2.2.2.2.2.2.2.2.2.2.2.2.2.2.2.2.2.2.2.2.2.2.1) (x.2.2.2.2.2.2.2.2.2.2.2.2.2.2.2.2.2.2.2.2.2.2.2.2.2.2.2.2.1) (x.2.2.2.2.2.2.2.2.2.2.2.2.2.2.2.2.2.2.2.2.2.2.2.2.2.2.2.2.2.1) (x.2.2.2.2.2.2.2.2.2.2.2.2.2.2.2.2.2.2.2.2.2.2.2.2.2.2.2.2.2.2.1) (x.2.2.2.2.2.2.2.2.2.2.2.2.2.2.2.2.2.2.2.2.2.2.2.2.2.2.2.2.2.2.2.1) (x.2.2.2.2.2.2.2.2.2.2.2.2.2.2.2.2.2.2.2.2.2.2.2.2.2.2.2.2.2.2.2.2.1) (x.2.2.2.2.2.2.2.2.2.2.2.2.2.2.2.2.2.2.2.2.2.2.2.2.2.2.2.2.2.2.2.2.2.1) (x.2.2.2.2.2.2.2.2.2.2.2.2.2.2.2.2.2.2.2.2.2.2.2.2.2.2.2.2.2.2.2.2.2.2.1) (x.2.2.2.2.2.2.2.2.2.2.2.2.2.2.2.2.2.2.2.2.2.2.2.2.2.2.2.2.2.2.2.2.2.2.2)) ⟨(w, news, es, rs, wd, w0, w1, w2, t0, t1, t2, ep, Rl, rvs, er, tb, mean, mg, mb, dp, un, gd, cn, cs, a, ccd, cl', outer, A₀, base, h₀, L, m, s, Q, E), hn⟩ Zeo_does.main) hkeys hsk hes hrp hks hw0 hw1 hw1p hw2 hW hR hRI hok
end Mine
end
section
theorem Mine.offT6 : True := by w_top off; trivial
namespace Mine
/-- how many octets n needs -/
noncomputable def wid (n : Nat) : Nat := if n = 0 then 0 else wid (n / 256) + 1
termination_by n
decreasing_by omega
theorem wid_zero : wid 0 = 0 := by unfold wid; rfl
theorem wid_pos {n : Nat} (h : 0 < n) : wid n = wid (n / 256) + 1 := by
  conv => lhs; unfold wid
  rw [if_neg (by omega)]
theorem fdiv_toNat {x : Int} (h : 0 ≤ x) : (x.fdiv 256).toNat = x.toNat / 256 ∧ 0 ≤ x.fdiv 256 := by
  rw [Int.fdiv_eq_ediv_of_nonneg _ (by decide)]
  omega
theorem frw2 {h₀ h : Heap} {L : Addr} {m₁ m₀ : Str → Option Value} {y y2 : Str} {u u2 : Value} (F : Fr h₀ L h m₁) (h1 : m₁ y = some u) (h3 : m₁ y2 = some u2) (h2 : ∀ z, z ≠ y → z ≠ y2 → m₁ z = m₀ z) :
    Fr h₀ L h (fun z => if z = y then some u else if z = y2 then some u2 else m₀ z) := by
  have e : m₁ = fun z => if z = y then some u else if z = y2 then some u2 else m₀ z := by
    funext z
    by_cases hy : z = y
    · subst hy; simp [h1]
    · simp only [if_neg hy]
      by_cases hy2 : z = y2
      · subst hy2; simp [h3]
      · simp only [if_neg hy2]; exact h2 z hy hy2
  exact e ▸ F
section
variable {prog : Program} {w : World} {A : Around} {E : Value → Shared → Prop} {Q : Flow → Shared → Prop} {s : Shared} {env : Env} {h₀ : Heap} {L : Addr}
theorem while_at {test : PySem.Expr} {body : List Stmt} {pos : Pos} {m : Str → Option Value} {news : Led} (J : (Str → Option Value) → Nat → (Str → Option Value) → Led → Prop) {n₀ : Nat}
    (F : Fr h₀ L s.heap m) (N : News h₀ L s.heap news) (hJ : J m n₀ m news)
    (turn : ∀ n m₁ news₁ h₁ tk₁, Fr h₀ L h₁ m₁ → News h₀ L h₁ news₁ → J m n m₁ news₁ →
      wpAny (model prog w) A (PySem.isTrue test env (eval test env)) (fun b s₂ =>
        if b = true then wpAny (model prog w) A (execs body env) (WhileStep h₀ L s (J m) n) E s₂ else Q .next s₂) E { s with heap := h₁, toks := tk₁ })
    (hE : PassesOwn (model prog w) A env E := by passes_own) :
    wpAny (model prog w) A (exec (.While test body [] pos) env) Q E s := While_inv (J m) F N hJ turn hE
end
noncomputable def Zwo_does.G (w : World) (news : Led) (n : Int) (tn : Tok) (mean : ExcName → Option Value) (mg : Str → Option Value) (mb : Str → Option Value) (dp : Nat) (un : Nat) (gd : Option (List Code)) (cn : Str) (cs : Scope) (a : Addr) (ccd : Value) (cl' : List (Str × Addr)) (outer : List Env) (A₀ : Around) (base : Heap) (h₀ : Heap) (L : Addr) (m : Str → Option Value) (s : Shared) (Q : Value → Shared → Prop) (E : Value → Shared → Prop) : Prop :=
  ∀ (h0 : 0 ≤ n), DoesB w 111 10 300 news [.int n tn] (fun v news' => (∃ t, v = .int (wid n.toNat : Nat) t) ∧ news' = news) mean mg mb dp un gd cn cs a ccd cl' outer A₀ base h₀ L m s Q E
noncomputable def Zwo_does.c : (World) × (Led) × (Int) × (Tok) × (ExcName → Option Value) × (Str → Option Value) × (Str → Option Value) × (Nat) × (Nat) × (Option (List Code)) × (Str) × (Scope) × (Addr) × (Value) × (List (Str × Addr)) × (List Env) × (Around) × (Heap) × (Heap) × (Addr) × (Str → Option Value) × (Shared) × (Value → Shared → Prop) × (Value → Shared → Prop) :=
  @Classical.epsilon _ ⟨((aWorld 0 : World), (default : Led), (default : Int), (default : Tok), (fun _ => none : ExcName → Option Value), (fun _ => none : Str → Option Value), (fun _ => none : Str → Option Value), (default : Nat), (default : Nat), (default : Option (List Code)), (default : Str), (default : Scope), (default : Addr), (default : Value), (default : List (Str × Addr)), (default : List Env), (callerA : Around), (default : Heap), (default : Heap), (default : Addr), (fun _ => none : Str → Option Value), ({} : Shared), (fun _ _ => True : Value → Shared → Prop), (fun _ _ => True : Value → Shared → Prop))⟩ fun x => ¬ Zwo_does.G (x.1) (x.2.1) (x.2.2.1) (x.2.2.2.1) (x.2.2.2.2.1) (x.2.2.2.2.2.1) (x.2.2.2.2.2.2.1) (x.2.2.2.2.2.2.2.1) (x.2.2.2.2.2.2.2.2.1) (x.2.2.2.2.2.2.2.2.2.1) (x.2.2.2.2.2.2.2.2.2.2.1) (x.2.2.2.2.2.2.2.2.2.2.2.1) (x.2.2.2.2.2.2.2.2.2.2.2.2.1) (x.2.2.2.2.2.2.2.2.2.2.2.2.2.1) (x.2.2.2.2.2.2.2.2.2.2.2.2.2.2.1) (x.2.2.2.2.2.2.2.2.2.2.2.2.2.2.2.1) (x.2.2.2.2.2.2.2.2.2.2.2.2.2.2.2.2.1) (x.2.2.2.2.2.2.2.2.2.2.2.2.2.2.2.2.2.1) (x.2.2.2.2.2.2.2.2.2.2.2.2.2.2.2.2.2.2.1) (x.2.2.2.2.2.2.2.2.2.2.2.2.2.2.2.2.2.2.2.1) (x.2.2.2.2.2.2.2.2.2.2.2.2.2.2.2.2.2.2.2.2.1) (x.2.2.2.2.2.2.2.2.2.2.2.2.2.2.2.2.2.2.2.2.2.1) (x.2.2.2.2.2.2.2.2.2.2.2.2.2.2.2.2.2.2.2.2.2.2.1) (x.2.2.2.2.2.2.2.2.2.2.2.2.2.2.2.2.2.2.2.2.2.2.2)
noncomputable def Zwo_does.V.w : World := Zwo_does.c.1
noncomputable def Zwo_does.V.news : Led := Zwo_does.c.2.1
noncomputable def Zwo_does.V.n : Int := Zwo_does.c.2.2.1
noncomputable def Zwo_does.V.tn : Tok := Zwo_does.c.2.2.2.1
noncomputable def Zwo_does.V.mean : ExcName → Option Value := Zwo_does.c.2.2.2.2.1
noncomputable def Zwo_does.V.mg : Str → Option Value := Zwo_does.c.2.2.2.2.2.1
noncomputable def Zwo_does.V.mb : Str → Option Value := Zwo_does.c.2.2.2.2.2.2.1
noncomputable def Zwo_does.V.dp : Nat := Zwo_does.c.2.2.2.2.2.2.2.1
noncomputable def Zwo_does.V.un : Nat := Zwo_does.c.2.2.2.2.2.2.2.2.1
noncomputable def Zwo_does.V.gd : Option (List Code) := Zwo_does.c.2.2.2.2.2.2.2.2.2.1
noncomputable def Zwo_does.V.cn : Str := Zwo_does.c.2.2.2.2.2.2.2.2.2.2.1
noncomputable def Zwo_does.V.cs : Scope := Zwo_does.c.2.2.2.2.2.2.2.2.2.2.2.1
noncomputable def Zwo_does.V.a : Addr := Zwo_does.c.2.2.2.2.2.2.2.2.2.2.2.2.1
noncomputable def Zwo_does.V.ccd : Value := Zwo_does.c.2.2.2.2.2.2.2.2.2.2.2.2.2.1
noncomputable def Zwo_does.V.cl' : List (Str × Addr) := Zwo_does.c.2.2.2.2.2.2.2.2.2.2.2.2.2.2.1
noncomputable def Zwo_does.V.outer : List Env := Zwo_does.c.2.2.2.2.2.2.2.2.2.2.2.2.2.2.2.1
noncomputable def Zwo_does.V.A₀ : Around := Zwo_does.c.2.2.2.2.2.2.2.2.2.2.2.2.2.2.2.2.1
noncomputable def Zwo_does.V.base : Heap := Zwo_does.c.2.2.2.2.2.2.2.2.2.2.2.2.2.2.2.2.2.1
noncomputable def Zwo_does.V.h₀ : Heap := Zwo_does.c.2.2.2.2.2.2.2.2.2.2.2.2.2.2.2.2.2.2.1
noncomputable def Zwo_does.V.L : Addr := Zwo_does.c.2.2.2.2.2.2.2.2.2.2.2.2.2.2.2.2.2.2.2.1
noncomputable def Zwo_does.V.m : Str → Option Value := Zwo_does.c.2.2.2.2.2.2.2.2.2.2.2.2.2.2.2.2.2.2.2.2.1
noncomputable def Zwo_does.V.s : Shared := Zwo_does.c.2.2.2.2.2.2.2.2.2.2.2.2.2.2.2.2.2.2.2.2.2.1
noncomputable def Zwo_does.V.Q : Value → Shared → Prop := Zwo_does.c.2.2.2.2.2.2.2.2.2.2.2.2.2.2.2.2.2.2.2.2.2.2.1
noncomputable def Zwo_does.V.E : Value → Shared → Prop := Zwo_does.c.2.2.2.2.2.2.2.2.2.2.2.2.2.2.2.2.2.2.2.2.2.2.2
section
open Zwo_does.V
set_option maxHeartbeats 8000000 in
theorem Zwo_does.main : Zwo_does.G Zwo_does.V.w Zwo_does.V.news Zwo_does.V.n Zwo_does.V.tn Zwo_does.V.mean Zwo_does.V.mg Zwo_does.V.mb Zwo_does.V.dp Zwo_does.V.un Zwo_does.V.gd Zwo_does.V.cn Zwo_does.V.cs Zwo_does.V.a Zwo_does.V.ccd Zwo_does.V.cl' Zwo_does.V.outer Zwo_does.V.A₀ Zwo_does.V.base Zwo_does.V.h₀ Zwo_does.V.L Zwo_does.V.m Zwo_does.V.s Zwo_does.V.Q Zwo_does.V.E := by
  unfold Zwo_does.G DoesB
  k_fill
  intro h0 B F X N T hk hdp hun hret
  refine wpAny_call ?_
  k_dflt cell_enter
  ((repeat' ( (fail_if_success (with_reducible show wpAny _ _ (pyIter (Value.ref _)) _ _ _)); (fail_if_success (with_reducible show wpAny _ _ (call (Value.ref _) _) _ _ _)); (fail_if_success (with_reducible show wpAny _ _ (exec (Stmt.While _ _ _ _) _) _ _ _)); (first | (k_unfold; (try dsimp only)) | (k_end; wrow_close) | walk1 | (dsimp only; walk1) | (leave1; walk_say "STEP leave1"; try dsimp only) | fail "no step"))); all_goals (try k_fold))
  (rename Fr _ _ _ _ => lF')
  (rename News _ _ _ _ => lN')
  refine while_at (n₀ := n.toNat) (fun m₀ k m₁ l => ∃ (x y : Int) (tx ty : Tok), l = news ∧ m₁ (Str.ofString "width") = some (.int x tx) ∧ m₁ (Str.ofString "number") = some (.int y ty) ∧ 0 ≤ y ∧ k = y.toNat ∧ x + (wid y.toNat : Nat) = (wid n.toNat : Nat) ∧ ∀ z, z ≠ Str.ofString "width" → z ≠ Str.ofString "number" → m₁ z = m₀ z)
    lF' lN' ⟨0, n, _, tn, rfl, rfl, rfl, h0, rfl, by omega, fun _ _ _ => rfl⟩ ?_ ?hE
  case hE => with_unfolding_all passes_own
  rintro k m₁ _ h tk F₁ N₁ ⟨x, y, tx, ty, rfl, hx, hy, hy0, rfl, hxy, hm⟩
  have F₂ := frw2 F₁ hx hy hm
  clear F₁ lF' lN'
  (try k_fold)
  ((repeat' ( (fail_if_success (with_reducible show wpAny _ _ (pyIter (Value.ref _)) _ _ _)); (fail_if_success (with_reducible show wpAny _ _ (call (Value.ref _) _) _ _ _)); (fail_if_success (with_reducible show wpAny _ _ (exec (Stmt.While _ _ _ _) _) _ _ _)); (first | (k_unfold; (try dsimp only)) | (k_end; wrow_close) | walk1 | (dsimp only; walk1) | (leave1; walk_say "STEP leave1"; try dsimp only) | fail "no step"))); all_goals (try k_fold))
  · (rename Fr _ _ _ _ => lF')
    (rename News _ _ _ _ => lN')
    (rename 0 < y => hpos)
    have hw := wid_pos (n := y.toNat) (by omega)
    have hd := fdiv_toNat (x := y) (by omega)
    exact WhileStep.intro lF' lN' (n' := (y.fdiv 256).toNat) (by omega) ⟨_, _, _, _, rfl, rfl, rfl, hd.2, rfl, by rw [hd.1]; omega, fun z h1 h2 => by simp [h1, h2]⟩
  · (rename ¬0 < y => hpos)
    have e : y.toNat = 0 := by omega
    rw [e, wid_zero] at hxy
    exact hret _ _ _ _ ⟨⟨tx, by rw [← hxy]; simp⟩, rfl⟩ (by k_asm) (by k_asm)
end
theorem wo_does (w : World) (news : Led) (n : Int) (tn : Tok) (h0 : 0 ≤ n) :
    Does w 111 10 300 news [.int n tn] (fun v news' => (∃ t, v = .int (wid n.toNat : Nat) t) ∧ news' = news) := by
  intro mean mg mb dp un gd cn cs a ccd cl' outer A₀ base h₀ L m s Q E
  exact (Classical.byContradiction fun hn => @Classical.epsilon_spec _ (fun x : (World) × (Led) × (Int) × (Tok) × (ExcName → Option Value) × (Str → Option Value) × (Str → Option Value) × (Nat) × (Nat) × (Option (List Code)) × (Str) × (Scope) × (Addr) × (Value) × (List (Str × Addr)) × (List Env) × (Around) × (Heap) × (Heap) × (Addr) × (Str → Option Value) × (Shared) × (Value → Shared → Prop) × (Value → Shared → Prop) => ¬ Zwo_does.G (x.1) (x.2.1) (x.2.2.1) (x.2.2.2.1) (x.2.2.2.2.1) (x.2.2.2.2.2.1) (x.2.2.2.2.2.2.1) (x.2.2.2.2.2.2.2.1) (x.2.2.2.2.2.2.2.2.1) (x.2.2.2.2.2.2.2.2.2.1) (x.2.2.2.2.2.2.2.2.2.2.1) (x.2.2.2.2.2.2.2.2.2.2.2.1) (x.2.2.2.2.2.2.2.2.2.2.2.2.1) (x.2.2.2.2.2.2.2.2.2.2.2.2.2.1) (x.2.2.2.2.2.2.2.2.2.2.2.2.2.2.1) (x.2.2.2.2.2.2.2.2.2.2.2.2.2.2.2.1) (x.2.2.2.2.2.2.2.2.2.2.2.2.2.2.2.2.1) (x.2.2.2.2.2.2.2.2.2.2.2.2.2.2.2.2.2.1) (x.2.2.2.2.2.2.2.2.2.2.2.2.2.2.2.2.2.2.1) (x.2.2.2.2.2.2.2.2.2.2.2.2.2.2.2.2.2.2.2.1) (x.2.2.2.2.2.2.2.2.2.2.2.2.2.2.2.2.2.2.2.2.1) (x.2.2.2.2.2.2.2.2.2.2.2.2.2.2.2.2.2.2.2.2.2.1) (x.2.2.2.2.2.2.2.2.2.2.2.2.2.2.2.2.2.2.2.2.2.2.1) (x.2.2.2.2.2.2.2.2.2.2.2.2.2.2.2.2.2.2.2.2.2.2.2)) ⟨(w, news, n, tn, mean, mg, mb, dp, un, gd, cn, cs, a, ccd, cl', outer, A₀, base, h₀, L, m, s, Q, E), hn⟩ Zwo_does.main) h0
end Mine
end
section
theorem Mine.offT8 : True := by w_top off; trivial
namespace Mine
noncomputable def mixN (es : List Ent) : Int := if es.any (fun e => e.way != Str.ofString "used") then 1 else 0
noncomputable def topOne (es : List Ent) : Nat := es.foldl (fun m e => max m (wid e.one.toNat)) 1
noncomputable def topTwo (es : List Ent) : Nat := es.foldl (fun m e => max m (wid e.two.toNat)) 0
theorem mixN_snoc {es : List Ent} {i : Nat} {e : Ent} (he : es[i]? = some e) : mixN (es.take (i + 1)) = if (e.way != Str.ofString "used") = true then 1 else mixN (es.take i) := by
  unfold mixN
  rw [List.take_add_one, he]
  simp only [Option.toList, List.any_append, List.any_cons, List.any_nil, Bool.or_false]
  cases (e.way != Str.ofString "used") <;> simp
theorem mixN_yes {es : List Ent} {i : Nat} {e : Ent} (he : es[i]? = some e) (h : (e.way != Str.ofString "used") = true) : mixN (es.take (i + 1)) = 1 := by rw [mixN_snoc he, if_pos h]
theorem mixN_no {es : List Ent} {i : Nat} {e : Ent} (he : es[i]? = some e) (h : (e.way != Str.ofString "used") = false) : mixN (es.take (i + 1)) = mixN (es.take i) := by rw [mixN_snoc he, h]; simp
theorem topOne_snoc {es : List Ent} {i : Nat} {e : Ent} (he : es[i]? = some e) : ((topOne (es.take (i + 1)) : Nat) : Int) = if ((wid e.one.toNat : Nat) : Int) > (topOne (es.take i) : Nat) then ((wid e.one.toNat : Nat) : Int) else (topOne (es.take i) : Nat) := by
  unfold topOne
  rw [List.take_add_one, he]
  simp only [Option.toList, List.foldl_append, List.foldl_cons, List.foldl_nil]
  split <;> omega
theorem topTwo_snoc {es : List Ent} {i : Nat} {e : Ent} (he : es[i]? = some e) : ((topTwo (es.take (i + 1)) : Nat) : Int) = if ((wid e.two.toNat : Nat) : Int) > (topTwo (es.take i) : Nat) then ((wid e.two.toNat : Nat) : Int) else (topTwo (es.take i) : Nat) := by
  unfold topTwo
  rw [List.take_add_one, he]
  simp only [Option.toList, List.foldl_append, List.foldl_cons, List.foldl_nil]
  split <;> omega
noncomputable def Zws_does.G (w : World) (news : Led) (D : Addr) (oD : Obj) (kvs : List (Int × Value)) (es : List Ent) (mean : ExcName → Option Value) (mg : Str → Option Value) (mb : Str → Option Value) (dp : Nat) (un : Nat) (gd : Option (List Code)) (cn : Str) (cs : Scope) (a : Addr) (ccd : Value) (cl' : List (Str × Addr)) (outer : List Env) (A₀ : Around) (base : Heap) (h₀ : Heap) (L : Addr) (m : Str → Option Value) (s : Shared) (Q : Value → Shared → Prop) (E : Value → Shared → Prop) : Prop :=
  ∀ (hT : EntTab w news D oD kvs es), ∀ (h0 : ∀ e ∈ es, 0 ≤ e.one ∧ 0 ≤ e.two), DoesB w 118 20 600 news [.ref D] (TupPost (mixN es) (topOne es : Nat) (topTwo es : Nat) news) mean mg mb dp un gd cn cs a ccd cl' outer A₀ base h₀ L m s Q E
noncomputable def Zws_does.c : (World) × (Led) × (Addr) × (Obj) × (List (Int × Value)) × (List Ent) × (ExcName → Option Value) × (Str → Option Value) × (Str → Option Value) × (Nat) × (Nat) × (Option (List Code)) × (Str) × (Scope) × (Addr) × (Value) × (List (Str × Addr)) × (List Env) × (Around) × (Heap) × (Heap) × (Addr) × (Str → Option Value) × (Shared) × (Value → Shared → Prop) × (Value → Shared → Prop) :=
  @Classical.epsilon _ ⟨((aWorld 0 : World), (default : Led), (default : Addr), (default : Obj), (default : List (Int × Value)), (default : List Ent), (fun _ => none : ExcName → Option Value), (fun _ => none : Str → Option Value), (fun _ => none : Str → Option Value), (default : Nat), (default : Nat), (default : Option (List Code)), (default : Str), (default : Scope), (default : Addr), (default : Value), (default : List (Str × Addr)), (default : List Env), (callerA : Around), (default : Heap), (default : Heap), (default : Addr), (fun _ => none : Str → Option Value), ({} : Shared), (fun _ _ => True : Value → Shared → Prop), (fun _ _ => True : Value → Shared → Prop))⟩ fun x => ¬ Zws_does.G (x.1) (x.2.1) (x.2.2.1) (x.2.2.2.1) (x.2.2.2.2.1) (x.2.2.2.2.2.1) (x.2.2.2.2.2.2.1) (x.2.2.2.2.2.2.2.1) (x.2.2.2.2.2.2.2.2.1) (x.2.2.2.2.2.2.2.2.2.1) (x.2.2.2.2.2.2.2.2.2.2.1) (x.2.2.2.2.2.2.2.2.2.2.2.1) (x.2.2.2.2.2.2.2.2.2.2.2.2.1) (x.2.2.2.2.2.2.2.2.2.2.2.2.2.1) (x.2.2.2.2.2.2.2.2.2.2.2.2.2.2.1) (x.2.2.2.2.2.2.2.2.2.2.2.2.2.2.2.1) (x.2.2.2.2.2.2.2.2.2.2.2.2.2.2.2.2.1) (x.2.2.2.2.2.2.2.2.2.2.2.2.2.2.2.2.2.1) (x.2.2.2.2.2.2.2.2.2.2.2.2.2.2.2.2.2.2.1) (x.2.2.2.2.2.2.2.2.2.2.2.2.2.2.2.2.2.2.2.1) (x.2.2.2.2.2.2.2.2.2.2.2.2.2.2.2.2.2.2.2.2.1) (x.2.2.2.2.2.2.2.2.2.2.2.2.2.2.2.2.2.2.2.2.2.1) (x.2.2.2.2.2.2.2.2.2.2.2.2.2.2.2.2.2.2.2.2.2.2.1) (x.2.2.2.2.2.2.2.2.2.2.2.2.2.2.2.2.2.2.2.2.2.2.2.1) (x.2.2.2.2.2.2.2.2.2.2.2.2.2.2.2.2.2.2.2.2.2.2.2.2.1) (x.2.2.2.2.2.2.2.2.2.2.2.2.2.2.2.2.2.2.2.2.2.2.2.2.2)
noncomputable def Zws_does.V.w : World := Zws_does.c.1
noncomputable def Zws_does.V.news : Led := Zws_does.c.2.1
noncomputable def Zws_does.V.D : Addr := Zws_does.c.2.2.1
noncomputable def Zws_does.V.oD : Obj := Zws_does.c.2.2.2.1
noncomputable def Zws_does.V.kvs : List (Int × Value) := Zws_does.c.2.2.2.2.1
noncomputable def Zws_does.V.es : List Ent := Zws_does.c.2.2.2.2.2.1
noncomputable def Zws_does.V.mean : ExcName → Option Value := Zws_does.c.2.2.2.2.2.2.1
noncomputable def Zws_does.V.mg : Str → Option Value := Zws_does.c.2.2.2.2.2.2.2.1
noncomputable def Zws_does.V.mb : Str → Option Value := Zws_does.c.2.2.2.2.2.2.2.2.1
noncomputable def Zws_does.V.dp : Nat := Zws_does.c.2.2.2.2.2.2.2.2.2.1
noncomputable def Zws_does.V.un : Nat := Zws_does.c.2.2.2.2.2.2.2.2.2.2.1
noncomputable def Zws_does.V.gd : Option (List Code) := Zws_does.c.2.2.2.2.2.2.2.2.2.2.2.1
noncomputable def Zws_does.V.cn : Str := Zws_does.c.2.2.2.2.2.2.2.2.2.2.2.2.1
noncomputable def Zws_does.V.cs : Scope := Zws_does.c.2.2.2.2.2.2.2.2.2.2.2.2.2.1
noncomputable def Zws_does.V.a : Addr := Zws_does.c.2.2.2.2.2.2.2.2.2.2.2.2.2.2.1
noncomputable def Zws_does.V.ccd : Value := Zws_does.c.2.2.2.2.2.2.2.2.2.2.2.2.2.2.2.1
noncomputable def Zws_does.V.cl' : List (Str × Addr) := Zws_does.c.2.2.2.2.2.2.2.2.2.2.2.2.2.2.2.2.1
noncomputable def Zws_does.V.outer : List Env := Zws_does.c.2.2.2.2.2.2.2.2.2.2.2.2.2.2.2.2.2.1
noncomputable def Zws_does.V.A₀ : Around := Zws_does.c.2.2.2.2.2.2.2.2.2.2.2.2.2.2.2.2.2.2.1
noncomputable def Zws_does.V.base : Heap := Zws_does.c.2.2.2.2.2.2.2.2.2.2.2.2.2.2.2.2.2.2.2.1
noncomputable def Zws_does.V.h₀ : Heap := Zws_does.c.2.2.2.2.2.2.2.2.2.2.2.2.2.2.2.2.2.2.2.2.1
noncomputable def Zws_does.V.L : Addr := Zws_does.c.2.2.2.2.2.2.2.2.2.2.2.2.2.2.2.2.2.2.2.2.2.1
noncomputable def Zws_does.V.m : Str → Option Value := Zws_does.c.2.2.2.2.2.2.2.2.2.2.2.2.2.2.2.2.2.2.2.2.2.2.1
noncomputable def Zws_does.V.s : Shared := Zws_does.c.2.2.2.2.2.2.2.2.2.2.2.2.2.2.2.2.2.2.2.2.2.2.2.1
noncomputable def Zws_does.V.Q : Value → Shared → Prop := Zws_does.c.2.2.2.2.2.2.2.2.2.2.2.2.2.2.2.2.2.2.2.2.2.2.2.2.1
noncomputable def Zws_does.V.E : Value → Shared → Prop := Zws_does.c.2.2.2.2.2.2.2.2.2.2.2.2.2.2.2.2.2.2.2.2.2.2.2.2.2
section
open Zws_does.V
set_option maxHeartbeats 8000000 in
theorem Zws_does.main : Zws_does.G Zws_does.V.w Zws_does.V.news Zws_does.V.D Zws_does.V.oD Zws_does.V.kvs Zws_does.V.es Zws_does.V.mean Zws_does.V.mg Zws_does.V.mb Zws_does.V.dp Zws_does.V.un Zws_does.V.gd Zws_does.V.cn Zws_does.V.cs Zws_does.V.a Zws_does.V.ccd Zws_does.V.cl' Zws_does.V.outer Zws_does.V.A₀ Zws_does.V.base Zws_does.V.h₀ Zws_does.V.L Zws_does.V.m Zws_does.V.s Zws_does.V.Q Zws_does.V.E := by
  unfold Zws_does.G DoesB
  k_fill
  intro hT h0 B F X N T hk hdp hun hret
  have hm := hT.mem
  have hd := hT.dict
  refine wpAny_call ?_
  k_dflt cell_enter
  ((repeat' ( (fail_if_success (with_reducible show wpAny _ _ (pyIter (Value.ref _)) _ _ _)); (fail_if_success (with_reducible show wpAny _ _ (exec (Stmt.While _ _ _ _) _) _ _ _)); (first | (k_unfold; (try dsimp only)) | (k_end; wrow_close) | (k_here; (with_reducible show wpAny _ _ (call (Value.ref 111) [Value.int _ _]) _ _ _); k_dflt (refine' does_pure (wo_does _ _ _ _ ?z) ?k1 ?k2 ?k3 ?k4 ?k5 ?k6 ?k7 ?k8 ?_; (case z => assumption); (case k1 => k_asm); (case k2 => k_asm); (case k3 => k_asm); (case k4 => k_asm); (case k5 => k_asm); (case k6 => first | exact rfl | assumption); (case k7 => ktr_room); (case k8 => ktr_units)); (intro v9 h9 tk9 P9 F9 N9; obtain ⟨t9, e9⟩ := P9; subst e9); (try k_fold)) | (k_here; (with_reducible show wpAny _ _ (subscriptTail _ _ (Value.ref _) (Value.int _ _)) _ _ _); k_dflt (refine' kda_item (knd := PySem.intKind _ _) ?my1 ?my2 ?my3 (intKind_is _ _ _ _) ?my4 ?_ ?my5 ?my6; (case my1 => k_asm); (case my2 => k_mem); (case my3 => assumption); (case my4 => assumption); (case my5 => with_unfolding_all rfl); (case my6 => intro _; with_unfolding_all rfl))) | walk1 | (dsimp only; walk1) | (leave1; walk_say "STEP leave1"; try dsimp only) | fail "no step"))); all_goals (try k_fold))
  (rename Fr _ _ _ _ => lF')
  (rename News _ _ _ _ => lN')
  refine iter_dict (fun m₀ i m₁ l => ∃ t1 t2 t3, l = news ∧ Like (Str.ofString "number") m₀ m₁ [(Str.ofString "entry", m₁ (Str.ofString "entry")), (Str.ofString "first", some (.int (mixN (es.take i)) t1)), (Str.ofString "second", some (.int (topOne (es.take i) : Nat) t2)), (Str.ofString "third", some (.int (topTwo (es.take i) : Nat) t3))])
    rfl lF' lN' hm hd hT.lo ⟨_, _, _, rfl, Like.start ⟨rfl, rfl, rfl, rfl, trivial⟩⟩ ?_ ?_
  · rintro i v k y m₁ _ I oI h tk QT hQT hx hv ⟨t1, t2, t3, rfl, hL⟩ hmem ho F₁ N₁
    have F₂ := hL.turn F₁
    obtain ⟨e, x, he, rfl, rfl, d, a1, a2, a3, a4, a5, a6, m1, m2⟩ := hT.ents.get hx
    have hat := hT.at hx
    have hpos := h0 e (List.mem_of_getElem? he)
    have hone := hpos.1
    have htwo := hpos.2
    obtain ⟨tv, rfl⟩ := Value.isInt_shape hv
    simp only [upd] at F₂
    unfold entD at m2
    clear F₁ lF' lN'
    try k_fold
    ((repeat' ( (fail_if_success (with_reducible show wpAny _ _ (pyIter (Value.ref _)) _ _ _)); (fail_if_success (with_reducible show wpAny _ _ (exec (Stmt.While _ _ _ _) _) _ _ _)); (first | (k_unfold; (try dsimp only)) | (k_end; wrow_close) | (k_here; (with_reducible show wpAny _ _ (call (Value.ref 111) [Value.int _ _]) _ _ _); k_dflt (refine' does_pure (wo_does _ _ _ _ ?z) ?k1 ?k2 ?k3 ?k4 ?k5 ?k6 ?k7 ?k8 ?_; (case z => assumption); (case k1 => k_asm); (case k2 => k_asm); (case k3 => k_asm); (case k4 => k_asm); (case k5 => k_asm); (case k6 => first | exact rfl | assumption); (case k7 => ktr_room); (case k8 => ktr_units)); (intro v9 h9 tk9 P9 F9 N9; obtain ⟨t9, e9⟩ := P9; subst e9); (try k_fold)) | (k_here; (with_reducible show wpAny _ _ (subscriptTail _ _ (Value.ref _) (Value.int _ _)) _ _ _); k_dflt (refine' kda_item (knd := PySem.intKind _ _) ?my1 ?my2 ?my3 (intKind_is _ _ _ _) ?my4 ?_ ?my5 ?my6; (case my1 => k_asm); (case my2 => k_mem); (case my3 => assumption); (case my4 => assumption); (case my5 => with_unfolding_all rfl); (case my6 => intro _; with_unfolding_all rfl))) | walk1 | (dsimp only; walk1) | (leave1; walk_say "STEP leave1"; try dsimp only) | fail "no step"))); all_goals (try k_fold))
    · (rename Fr _ _ _ _ => lF')
      (rename News _ _ _ _ => lN')
      (rename (_ != _) = true => hb9)
      exact hQT _ _ <| TurnEnd.next lF' lN' (fun p hp => by rw [List.mem_singleton.mp hp]; exact hmem) ho ⟨_, _, _, rfl, ⟨rfl, by rw [mixN_yes he hb9]; rfl, by rw [topOne_snoc he]; rfl, by rw [topTwo_snoc he]; rfl, trivial⟩, fun z hx hz => by simp only [Off] at hz; simp [upd, hx, hz]⟩
    · (rename Fr _ _ _ _ => lF')
      (rename News _ _ _ _ => lN')
      (rename (_ != _) = false => hb9)
      exact hQT _ _ <| TurnEnd.next lF' lN' (fun p hp => by rw [List.mem_singleton.mp hp]; exact hmem) ho ⟨_, _, _, rfl, ⟨rfl, by rw [mixN_no he hb9]; rfl, by rw [topOne_snoc he]; rfl, by rw [topTwo_snoc he]; rfl, trivial⟩, fun z hx hz => by simp only [Off] at hz; simp [upd, hx, hz]⟩
  · rintro h tk m' _ ⟨t1, t2, t3, rfl, hL⟩ hmem F₁ N₁
    have F₂ := hL.out F₁
    rw [hT.ents.length, List.take_length] at F₂
    simp only [upd] at F₂
    clear F₁ lF' lN'
    try k_fold
    ((repeat' ( (fail_if_success (with_reducible show wpAny _ _ (pyIter (Value.ref _)) _ _ _)); (fail_if_success (with_reducible show wpAny _ _ (exec (Stmt.While _ _ _ _) _) _ _ _)); (first | (k_unfold; (try dsimp only)) | (k_end; wrow_close) | (k_here; (with_reducible show wpAny _ _ (call (Value.ref 111) [Value.int _ _]) _ _ _); k_dflt (refine' does_pure (wo_does _ _ _ _ ?z) ?k1 ?k2 ?k3 ?k4 ?k5 ?k6 ?k7 ?k8 ?_; (case z => assumption); (case k1 => k_asm); (case k2 => k_asm); (case k3 => k_asm); (case k4 => k_asm); (case k5 => k_asm); (case k6 => first | exact rfl | assumption); (case k7 => ktr_room); (case k8 => ktr_units)); (intro v9 h9 tk9 P9 F9 N9; obtain ⟨t9, e9⟩ := P9; subst e9); (try k_fold)) | (k_here; (with_reducible show wpAny _ _ (subscriptTail _ _ (Value.ref _) (Value.int _ _)) _ _ _); k_dflt (refine' kda_item (knd := PySem.intKind _ _) ?my1 ?my2 ?my3 (intKind_is _ _ _ _) ?my4 ?_ ?my5 ?my6; (case my1 => k_asm); (case my2 => k_mem); (case my3 => assumption); (case my4 => assumption); (case my5 => with_unfolding_all rfl); (case my6 => intro _; with_unfolding_all rfl))) | walk1 | (dsimp only; walk1) | (leave1; walk_say "STEP leave1"; try dsimp only) | fail "no step"))); all_goals (try k_fold))
    exact hret _ _ _ _ ⟨_, _, _, _, rfl, rfl, by assumption⟩ (by k_asm) (by k_asm)
end
theorem ws_does (w : World) (news : Led) (D : Addr) (oD : Obj) (kvs : List (Int × Value)) (es : List Ent) (hT : EntTab w news D oD kvs es) (h0 : ∀ e ∈ es, 0 ≤ e.one ∧ 0 ≤ e.two) :
    Does w 118 20 600 news [.ref D] (TupPost (mixN es) (topOne es : Nat) (topTwo es : Nat) news) := by
  intro mean mg mb dp un gd cn cs a ccd cl' outer A₀ base h₀ L m s Q E
  exact (Classical.byContradiction fun hn => @Classical.epsilon_spec _ (fun x : (World) × (Led) × (Addr) × (Obj) × (List (Int × Value)) × (List Ent) × (ExcName → Option Value) × (Str → Option Value) × (Str → Option Value) × (Nat) × (Nat) × (Option (List Code)) × (Str) × (Scope) × (Addr) × (Value) × (List (Str × Addr)) × (List Env) × (Around) × (Heap) × (Heap) × (Addr) × (Str → Option Value) × (Shared) × (Value → Shared → Prop) × (Value → Shared → Prop) => ¬ Zws_does.G (x.1) (x.2.1) (x.2.2.1) (x.2.2.2.1) (x.2.2.2.2.1) (x.2.2.2.2.2.1) (x.2.2.2.2.2.2.1) (x.2.2.2.2.2.2.2.1) (x.2.2.2.2.2.2.2.2.1) (x.2.2.2.2.2.2.2.2.2.1) (x.2.2.2.2.2.2.2.2.2.2.1) (x.2.2.2.2.2.2.2.2.2.2.2.1) (x.2.2.2.2.2.2.2.2.2.2.2.2.1) (x.2.2.2.2.2.2.2.2.2.2.2.2.2.1) (x.2.2.2.2.2.2.2.2.2.2.2.2.2.2.1) (x.2.2.2.2.2.2.2.2.2.2.2.2.2.2.2.1) (x.2.2.2.2.2.2.2.2.2.2.2.2.2.2.2.2.1) (x.2.2.2.2.2.2.2.2.2.2.2.2.2.2.2.2.2.1) (x.2.2.2.2.2.2.2.2.2.2.2.2.2.2.2.2.2.2.1) (x.2.2.2.2.2.2.2.2.2.2.2.2.2.2.2.2.2.2.2.1) (x.2.2.2.2.2.2.2.2.2.2.2.2.2.2.2.2.2.2.2.2.1) (x.2.2.2.2.2.2.2.2.2.2.2.2.2.2.2.2.2.2.2.2.2.1) (x.2.2.2.2.2.2.2.2.2.2.2.2.2.2.2.2.2.2.2.2.2.2.1) (x.2.2.2.2.2.2.2.2.2.2.2.2.2.2.2.2.2.2.2.2.2.2.2.1) (x.2.2.2.2.2.2.2.2.2.2.2.2.2.2.2.2.2.2.2.2.2.2.2.2.1) (x.2.2.2.2.2.2.2.2.2.2.2.2.2.2.2.2.2.2.2.2.2.2.2.2.2)) ⟨(w, news, D, oD, kvs, es, mean, mg, mb, dp, un, gd, cn, cs, a, ccd, cl', outer, A₀, base, h₀, L, m, s, Q, E), hn⟩ Zws_does.main) hT h0
end Mine
end
section
theorem Mine.offL0 : True := by w_top off; trivial
namespace Mine
noncomputable def lawB : { b : Scope × List Stmt // ∃ oc od name params dV kV doc pm an cdv ct osl, ∀ w : World, (hd.heap_1 w.params).lookup 175 = some ⟨oc, od, .func (fnOf name (Str.ofString "law") params b.2 b.1 dV kV doc pm an cdv ct), osl⟩ } :=
  ⟨(_, _), _, _, _, _, _, _, _, _, _, _, _, _, fun _ => rfl⟩
/-- the frame of the law -/
noncomputable abbrev lawE (L fa : Addr) (ccd : Value) : Env := envOfC (Str.ofString "law") lawB.1.1 L fa ccd
noncomputable abbrev lawT (k : Nat) (L fa : Addr) (ccd : Value) : Sem Flow := execs (lawB.1.2.drop k) (lawE L fa ccd)
theorem fr_upd {h₀ h : Heap} {L : Addr} {m : Str → Option Value} (ps : List (Str × Option Value)) (F : Fr h₀ L h m) (k : AtAll m ps) : Fr h₀ L h (upd ps m) := by
  have e : m = upd ps m := by
    funext z
    exact upd_eq k fun _ => rfl
  rw [← e]; exact F
end Mine
end
section
namespace Mine
section
variable {prog : Program} {w : World} {A : Around} {E : Value → Shared → Prop} {s : Shared} {h₀ : Heap} {L : Addr} {m : Str → Option Value} {env : Env}
/-- the end of an element: what comes back, and the ledger behind it -/
inductive EltEnd (h₀ : Heap) (L : Addr) (m : Str → Option Value) (I C D : Addr) (oI oC oD : Obj) (Jn : Value → Led → Prop) (s₁ : Shared) (y : Value) (s₂ : Shared) : Prop
  | mk (h' : Heap) (tk : Nat) (news' : Led) (e1 : s₂ = { s₁ with heap := h', toks := tk }) (e2 : Fr h₀ L h' m) (e3 : News h₀ L h' ((I, oI) :: (C, oC) :: (D, oD) :: news')) (e4 : ∀ p ∈ news', @Ne Nat p.1 I) (e5 : ∀ p ∈ news', @Ne Nat p.1 C) (e6 : ∀ p ∈ news', @Ne Nat p.1 D) (e7 : Jn y news') : EltEnd h₀ L m I C D oI oC oD Jn s₁ y s₂
theorem rest_of_inv {elt : PySem.Expr} {x : Str} {scope : Scope} {cl : List (Str × Addr)} {S : Led → Prop} {P : Nat → Value → Prop} {Fin : List Value → Led → Prop} (J : Nat → List Value → Led → Prop) (n : Nat)
    (hS : ∀ i ys news, J i ys news → S news) (hF : ∀ ys news, J n ys news → Fin ys news)
    (turn : ∀ i v ys news I oI C oC D m₂ h tk (E' : Value → Shared → Prop) (QE : Value → Shared → Prop), (∀ y s₂, EltEnd h₀ L m I C D oI oC (LCg.lst ys) (fun y => J (i + 1) (ys ++ [y])) { s with heap := h, toks := tk } y s₂ → QE y s₂) → i < n → P i v → J i ys news → LCg.NsObj oC m₂ → m₂ x = some v → Fr h₀ L h m → News h₀ L h ((I, oI) :: (C, oC) :: (D, LCg.lst ys) :: news) →
      (∀ p ∈ news, @Ne Nat p.1 I) → (∀ p ∈ news, @Ne Nat p.1 C) → (∀ p ∈ news, @Ne Nat p.1 D) → @Ne Nat I C → @Ne Nat I D → @Ne Nat C D →
      wpAny (model prog w) A (eval elt (compEnvC scope cl C env)) QE E' { s with heap := h, toks := tk }) :
    ∀ k i ys news, i + k = n → J i ys news → LCg.CompRest prog w A h₀ L m env elt x scope cl s S P Fin k i ys news
  | 0, i, ys, news, e, hJ => LCg.CompRest.zero (hF _ _ (by rw [Nat.add_zero] at e; rw [← e]; exact hJ))
  | k + 1, i, ys, news, e, hJ => LCg.CompRest.succ fun v I oI C oC D m₂ h tk E' hP hC hx F N off ⟨n1, n2, n3⟩ => by
    have off' := off.mem
    refine wpAny_mono (turn i v ys news I oI C oC D m₂ h tk E' _ (fun _ _ x => x) (by omega) hP hJ hC hx F N (fun p hp => (off' p hp).1) (fun p hp => (off' p hp).2.1) (fun p hp => (off' p hp).2.2) n1 n2 n3) (fun y s₂ z => ?_) fun _ _ z => z
    obtain ⟨h', tk', news', rfl, F', N', o1, o2, o3, hJ'⟩ := z
    exact ⟨h', tk', news', rfl, F', N', LCg.Off3.of fun p hp => ⟨o1 p hp, o2 p hp, o3 p hp⟩, hS _ _ _ hJ', rest_of_inv J n hS hF turn k (i + 1) (ys ++ [y]) news' (by omega) hJ'⟩
inductive SrcDict {K : Type} [DecidableEq K] (prog : Program) (w : World) (A : Around) (h₀ : Heap) (L : Addr) (m : Str → Option Value) (env : Env) (elt : PySem.Expr) (x : Str) (scope : Scope) (cl : List (Str × Addr)) (knd : KeyKind prog w K) (Q : Value → Shared → Prop) (xv : Value) (s₁ : Shared) : Prop
  | mk (d : Addr) (o : Obj) (kvs : List (K × Value)) (news : Led) (e1 : xv = .ref d) (e2 : Fr h₀ L s₁.heap m) (e3 : News h₀ L s₁.heap news) (e4 : (d, o) ∈ news) (e5 : o.IsDictOf knd kvs) (e6 : (d == sysModules) = false) (e7 : kvs.length ≤ sizeLine)
      (e8 : ∀ g, LCg.CompRest prog w A h₀ L m env elt x scope cl { s₁ with heap := g } (fun nw => (d, o) ∈ nw) (fun i v => ∃ k y, kvs[i]? = some (k, y) ∧ knd.is k v = true) (LCg.FinE h₀ L m { s₁ with heap := g } Q) kvs.length 0 [] news) : SrcDict prog w A h₀ L m env elt x scope cl knd Q xv s₁
/-- a list comprehension over a dict's keys -/
theorem comp_dict {K : Type} [DecidableEq K] {knd : KeyKind prog w K} {elt iter : PySem.Expr} {x : Str} {px : Pos} {scope : Scope} {cl : List (Str × Addr)} {pos : Pos} {Q : Value → Shared → Prop}
    (hclos : closureFor scope env = pure cl) (hcell : ∀ y ∈ scope.names, y.2 ≠ .cell) (hkind : scope.kind = .function)
    (hnames : ∀ y ∈ scope.names, y.2 = .local → scope.names.lookup y.1 = some .local) (hx : scope.names.lookup x = some .local) (hh : A.handled = none)
    (h : wpAny (model prog w) A (eval iter env) (SrcDict prog w A h₀ L m env elt x scope cl knd Q) E s)
    (hs : ∀ x, foldedSetIterable iter env x = pure x := by intro _; rfl) :
    wpAny (model prog w) A (eval (.ListComp elt [⟨.Name x px, iter, [], 0⟩] scope pos) env) Q E s := by
  rw [eval_ListComp]
  refine wpAny_comprehension_free (use := none) rfl hs hclos hkind hnames (wpAny_mono h (fun xv s₁ h₁ => ?_) fun _ _ e => e)
  obtain ⟨d, o, kvs, news, rfl, F, N, hm, hd, lo, hsz, R⟩ := h₁
  obtain ⟨ep, ha⟩ := KdkAt.of hd
  have hda := ha.dictAt (N _ hm).1
  have hlt : d < s₁.heap.objs.size := Heap.lt_size (N _ hm).1
  refine wpAny_pyIter_dict lo hda ?_
  refine LCg.block_U (Walks.dictKeys (knd := knd) hh s₁.heap.objs.size d (Nat.ne_of_lt hlt) kvs ep) hsz (fun i h st => by obtain ⟨o, e, _⟩ := st.1; exact ⟨o, e⟩)
    (fun i h h' o nw st e e' k N S => ⟨by obtain ⟨o', q, r⟩ := st.1; rw [e] at q; cases q; exact ⟨o, e', r⟩, ha.dictAt (N _ S).1⟩) hcell hkind hx
    ⟨⟨_, Heap.get?_push_size _ rfl, rfl, rfl⟩, hda.at' fun o e => Heap.get?_push_of_some _ e⟩ (fun b hb => ?_)
    (F.push _) (fun p hp => ⟨Heap.get?_push_of_some _ (N p hp).1, (N p hp).2⟩) (Nat.ne_of_lt F.ns.lt) (next_is_new F) (fun p hp => Nat.ne_of_lt (Heap.lt_size (N p hp).1)) hm (R _) ?_
  · show b < (s₁.heap.push _).objs.size
    rw [Heap.size_push]
    rcases List.mem_cons.mp hb with rfl | hb
    · exact Nat.lt_succ_self _
    · rw [List.mem_singleton.mp hb]; exact Nat.lt_succ_of_lt hlt
  · intro D C h tk m' ys news' F' N' o1 hn hC₀ hD₀ hCL hDL hCD offC fin
    refine ⟨m', hn, fun h'' hs'' => fin D h'' tk (F'.change hs'' hCL hC₀) (fun p hp => ?_) o1⟩
    refine ⟨hs''.extBut _ _ ?_ (N' p hp).1, (N' p hp).2⟩
    rcases List.mem_cons.mp hp with rfl | hp
    · exact Ne.symm hCD
    · exact offC p hp
end
end Mine
end
section
namespace Mine
noncomputable def WaysAt (rest : Led) (wa : Addr) : Prop := ∃ (ws : List Value) (e : Nat), (wa, W.listOf (List.toArray ws) e) ∈ rest ∧ 0 < ws.length ∧ ws.length ≤ 10 ∧ ∀ v ∈ ws, ∃ x t, v = Value.str x t ∧ IsWay x
theorem ways_of {news : Led} {pen lA lB lC lD : Addr} {oD : Obj} {t1 t2 t3 t4 t5 t6 : Tok} {r : Led} {v : Value}
    (_P : PenIs news pen ((lD, oD) :: (lC, W.listOf #[.str (Str.ofString "used") t1, .str (Str.ofString "free") t2] 0) :: (lB, W.listOf #[.str (Str.ofString "free") t3, .str (Str.ofString "used") t4, .str (Str.ofString "packed") t5] 0) :: (lA, W.listOf #[.str (Str.ofString "used") t6] 0) :: r))
    (hv : v ∈ [Value.ref lA, .ref lB, .ref lC]) :
    ∃ wa, v = .ref wa ∧ WaysAt [(lD, oD), (lC, W.listOf #[.str (Str.ofString "used") t1, .str (Str.ofString "free") t2] 0), (lB, W.listOf #[.str (Str.ofString "free") t3, .str (Str.ofString "used") t4, .str (Str.ofString "packed") t5] 0), (lA, W.listOf #[.str (Str.ofString "used") t6] 0)] wa := by
  have ok1 : IsWay (Str.ofString "free") := .inl rfl
  have ok2 : IsWay (Str.ofString "used") := .inr (.inl rfl)
  have ok3 : IsWay (Str.ofString "packed") := .inr (.inr rfl)
  simp only [List.mem_cons, List.not_mem_nil, or_false] at hv
  rcases hv with rfl | rfl | rfl
  · refine ⟨lA, rfl, [_], 0, .tail _ (.tail _ (.tail _ (.head _))), by simp, by simp, ?_⟩
    simp only [List.mem_cons, List.not_mem_nil, or_false, forall_eq]
    exact ⟨_, _, rfl, ok2⟩
  · refine ⟨lB, rfl, [_, _, _], 0, .tail _ (.tail _ (.head _)), by simp, by simp, ?_⟩
    simp only [List.mem_cons, List.not_mem_nil, or_false, forall_eq_or_imp, forall_eq]
    exact ⟨⟨_, _, rfl, ok1⟩, ⟨_, _, rfl, ok2⟩, ⟨_, _, rfl, ok3⟩⟩
  · refine ⟨lC, rfl, [_, _], 0, .tail _ (.head _), by simp, by simp, ?_⟩
    simp only [List.mem_cons, List.not_mem_nil, or_false, forall_eq_or_imp, forall_eq]
    exact ⟨⟨_, _, rfl, ok2⟩, ⟨_, _, rfl, ok1⟩⟩
/-- the cells of the law, the pen and the table -/
structure Cells (L pen tb : Addr) (oT oF oS oP : Obj) (rest : Led) : Prop where
  far : ∀ p ∈ rest, @LT.lt Nat _ (L + 1 + 1 + 1 + 1) p.1
  offT : ∀ p ∈ rest, @Ne Nat p.1 tb
  ltT : @LT.lt Nat _ (L + 1 + 1 + 1 + 1) tb
  ltP : @LT.lt Nat _ (L + 1 + 1 + 1 + 1) pen
  cP : oP.data = .cell (some (.ref pen))
  cT : oT.data = .cell (some (.ref tb))
  cF : ∃ c, oF.data = .cell c
  cS : ∃ c, oS.data = .cell c
abbrev cellsL (L tb : Addr) (oTab oT oF oS oP : Obj) (rest : Led) : Led := (tb, oTab) :: (L + 1 + 1, oT) :: (L + 1 + 1 + 1, oF) :: (L + 1 + 1 + 1 + 1, oS) :: (L + 1, oP) :: rest
inductive Inv3 (w : World) (h₀ : Heap) (L pen : Addr) (h : Heap) : Prop
  | mk (m : Str → Option Value) (wa tb : Addr) (oTab oT oF oS oP : Obj) (rest news : Led) (num : Int) (tn : Tok) (F : Fr h₀ L h (upd [(Str.ofString "ways", some (.ref wa)), (Str.ofString "number", some (.int num tn))] m)) (N : News h₀ L h news) (P : PenIs news pen (cellsL L tb oTab oT oF oS oP rest))
    (C : Cells L pen tb oT oF oS oP rest) (hd : Obj.IsDictOf (PySem.intKind prg w) oTab []) (lo : (tb == sysModules) = false) (W : WaysAt rest wa) (h0 : 0 ≤ num) (h4 : num < 4) : Inv3 w h₀ L pen h
/-- the rows of the table: each a tuple of the ledger -/
noncomputable def TupAt (rest : Led) (x : Addr) (e : Ent) : Prop := ∃ a1 a2 a3, (x, tupD e.way e.one e.two a1 a2 a3) ∈ rest
inductive TupsAt (rest : Led) : List (Int × Value) → List Ent → Prop
  | nil : TupsAt rest [] []
  | cons {x : Addr} {e : Ent} {kvs : List (Int × Value)} {es : List Ent} : TupAt rest x e → TupsAt rest kvs es → TupsAt rest ((e.key, .ref x) :: kvs) (e :: es)
theorem TupAt.mono {rest rest' : Led} {x : Addr} {e : Ent} (h : TupAt rest x e) (hs : ∀ p ∈ rest, p ∈ rest') : TupAt rest' x e := by
  obtain ⟨a1, a2, a3, h1⟩ := h
  exact ⟨a1, a2, a3, hs _ h1⟩
theorem TupsAt.mono {rest rest' : Led} {kvs : List (Int × Value)} {es : List Ent} (h : TupsAt rest kvs es) (hs : ∀ p ∈ rest, p ∈ rest') : TupsAt rest' kvs es := by
  induction h with
  | nil => exact .nil
  | cons a _ ih => exact .cons (a.mono hs) ih
theorem TupsAt.snoc {rest : Led} {kvs : List (Int × Value)} {es : List Ent} (h : TupsAt rest kvs es) {x : Addr} {e : Ent} (a : TupAt rest x e) : TupsAt rest (kvs ++ [(e.key, .ref x)]) (es ++ [e]) := by
  induction h with
  | nil => exact .cons a .nil
  | cons b _ ih => exact .cons b ih
theorem TupsAt.keys {rest : Led} {kvs : List (Int × Value)} {es : List Ent} (h : TupsAt rest kvs es) : kvs.map (·.1) = es.map (·.key) := by
  induction h with
  | nil => rfl
  | cons _ _ ih => simp [ih]
theorem TupsAt.length {rest : Led} {kvs : List (Int × Value)} {es : List Ent} (h : TupsAt rest kvs es) : kvs.length = es.length := by
  induction h with
  | nil => rfl
  | cons _ _ ih => simp [ih]
theorem TupsAt.get {rest : Led} {kvs : List (Int × Value)} {es : List Ent} (h : TupsAt rest kvs es) : ∀ {i : Nat} {k : Int} {y : Value}, kvs[i]? = some (k, y) → ∃ (e : Ent) (x : Addr), es[i]? = some e ∧ e.key = k ∧ y = .ref x ∧ TupAt rest x e := by
  induction h with
  | nil => intro i k y h; simp at h
  | @cons x e kvs es a _ ih =>
    intro i k y h
    cases i with
    | zero => simp at h; exact ⟨e, x, by simp, h.1, h.2.symm, a⟩
    | succ i => simp at h; obtain ⟨e', x', h1, h2, h3, h4⟩ := ih h; exact ⟨e', x', by simpa using h1, h2, h3, h4⟩
structure Tbl (es : List Ent) : Prop where
  sorted : (es.map (·.key)).Pairwise (· < ·)
  keys : ∀ e ∈ es, 0 ≤ e.key ∧ e.key ≤ 60
  vals : ∀ e ∈ es, IsWay e.way ∧ 0 ≤ e.one ∧ e.one ≤ 70000 ∧ 0 ≤ e.two ∧ e.two ≤ 70000
inductive Inv4 (w : World) (h₀ : Heap) (L pen : Addr) (h : Heap) : Prop
  | mk (m : Str → Option Value) (tb : Addr) (oTab oT oF oS oP : Obj) (rest news : Led) (kvs : List (Int × Value)) (es : List Ent) (F : Fr h₀ L h m) (N : News h₀ L h news) (P : PenIs news pen (cellsL L tb oTab oT oF oS oP rest))
    (C : Cells L pen tb oT oF oS oP rest) (hd : Obj.IsDictOf (PySem.intKind prg w) oTab kvs) (lo : (tb == sysModules) = false) (hT : TupsAt rest kvs es) (hB : Tbl es) (h0 : 0 < es.length) (h6 : es.length ≤ 6) : Inv4 w h₀ L pen h
/-- between two turns of the loop that makes the table -/
inductive TabJ (w : World) (L pen wa tb : Addr) (oT oF oS oP : Obj) (i : Nat) (m₀ m₁ : Str → Option Value) (l : Led) : Prop
  | mk (oTab : Obj) (rest : Led) (kvs : List (Int × Value)) (es : List Ent) (num : Int) (tn : Tok) (P : PenIs l pen (cellsL L tb oTab oT oF oS oP rest)) (C : Cells L pen tb oT oF oS oP rest) (hd : Obj.IsDictOf (PySem.intKind prg w) oTab kvs) (hT : TupsAt rest kvs es) (hl : es.length = i) (hB : Tbl es)
    (hlt : ∀ e ∈ es, e.key < num) (h0 : 0 ≤ num) (h1 : num ≤ 3 + 5 * (i : Int)) (W : WaysAt rest wa) (hL : Like (Str.ofString "turn") m₀ m₁ [(Str.ofString "one", m₁ (Str.ofString "one")), (Str.ofString "number", some (.int num tn))]) : TabJ w L pen wa tb oT oF oS oP i m₀ m₁ l
theorem one_of {d : Int} {i : Nat} {t1 t2 t3 t4 t5 : Tok} {v : Value} (h0 : 0 ≤ d) (h1 : d < 300) (hi : i ≤ 10) (hv : v ∈ [Value.int d t1, .int 0 t2, .int (65536 + (0 + (i : Int) * 1)) t3, .int 255 t4, .int 256 t5]) : ∃ k t, v = Value.int k t ∧ 0 ≤ k ∧ k ≤ 70000 := by
  simp only [List.mem_cons, List.not_mem_nil, or_false] at hv
  rcases hv with rfl | rfl | rfl | rfl | rfl
  all_goals exact ⟨_, _, rfl, by omega, by omega⟩
theorem two_of {d : Int} {t1 t2 t3 : Tok} {v : Value} (h0 : 0 ≤ d) (h1 : d < 70000) (hv : v ∈ [Value.int 0 t1, .int 0 t2, .int d t3]) : ∃ k t, v = Value.int k t ∧ 0 ≤ k ∧ k ≤ 70000 := by
  simp only [List.mem_cons, List.not_mem_nil, or_false] at hv
  rcases hv with rfl | rfl | rfl
  all_goals exact ⟨_, _, rfl, by omega, by omega⟩
theorem step_of {t1 t2 t3 : Tok} {v : Value} (hv : v ∈ [Value.int 1 t1, .int 1 t2, .int 5 t3]) : ∃ k t, v = Value.int k t ∧ 1 ≤ k ∧ k ≤ 5 := by
  simp only [List.mem_cons, List.not_mem_nil, or_false] at hv
  rcases hv with rfl | rfl | rfl
  all_goals exact ⟨_, _, rfl, by omega, by omega⟩
theorem Tbl.snoc {es : List Ent} (h : Tbl es) {e : Ent} (hlt : ∀ x ∈ es, x.key < e.key) (hk : 0 ≤ e.key ∧ e.key ≤ 60) (hv : IsWay e.way ∧ 0 ≤ e.one ∧ e.one ≤ 70000 ∧ 0 ≤ e.two ∧ e.two ≤ 70000) : Tbl (es ++ [e]) where
  sorted := by
    rw [List.map_append, List.pairwise_append]
    refine ⟨h.sorted, by simp, ?_⟩
    intro a ha b hb
    obtain ⟨x, hx, rfl⟩ := List.mem_map.mp ha
    simp at hb
    subst hb
    exact hlt x hx
  keys := fun x hx => by
    rcases List.mem_append.mp hx with hx | hx
    · exact h.keys x hx
    · rw [List.mem_singleton.mp hx]; exact hk
  vals := fun x hx => by
    rcases List.mem_append.mp hx with hx | hx
    · exact h.vals x hx
    · rw [List.mem_singleton.mp hx]; exact hv
theorem tbl_new {rest : Led} {kvs : List (Int × Value)} {es : List Ent} (h : TupsAt rest kvs es) {k : Int} (hlt : ∀ x ∈ es, x.key < k) : k ∉ kvs.map (·.1) := by
  rw [h.keys]
  intro hm
  obtain ⟨x, hx, e⟩ := List.mem_map.mp hm
  have := hlt x hx
  omega
end Mine
end
section
open Builtin
namespace Mine
theorem lk_list_keys : typeLookup (.type "list") "keys" = pure none := by rw [typeLookup_type, builtinLookup_eq_fast]; kernel_rfl
section
variable {prog : Program} {w : World} {A : Around} {E : Value → Shared → Prop} {h : Heap} {g : Array GenState} {d : Drawn} {t : Nat} {os : OsState} {a : Addr} {o : Obj}
theorem keys_entry {tk : Tok} {vs : Array Value} {c : Nat} {Q : PySem.Fin → Shared → Prop} (hA : A.handled = none) (hx : h.get? a = some { cls := .type "list", data := .seq vs c })
    (hq : ∀ h' tk e, Heap.NewAttrErr h h' e (.ref a) "keys" → E (.ref e) ⟨h', g, d, tk, os⟩) :
    wpAny (model prog w) A (Builtin.«object.__getattribute__» ⟨[.ref a, .str "keys" tk], []⟩) Q E ⟨h, g, d, t, os⟩ := by
  have hT : (⟨h, g, d, t, os⟩ : Shared).TypeIs (.ref a) "list" := ⟨_, hx, rfl⟩
  have f4 := lk_list_keys
  repeat (any_goals (first | assumption | with_reducible refine wpAny_loadPart_at hx ?_ | wp_step))
  exact wpAny_raiseAttrError hA hq (attrMsg_fits (by decide +kernel) (by rw [sizeLine_eq]; decide))
theorem keys_call {tk : Tok} {vs : Array Value} {c : Nat} {R : Result → Shared → Prop} (hA : A.handled = none) (hx : h.get? a = some { cls := .type "list", data := .seq vs c })
    (hq : ∀ h' tk e, Heap.NewAttrErr h h' e (.ref a) "keys" → R (.error (.ref e)) ⟨h', g, d, tk, os⟩) :
    codeAny (model prog w) A (.call (.builtin "list.__getattribute__") ⟨[.ref a, .str "keys" tk], []⟩) R ⟨h, g, d, t, os⟩ :=
  codeAny_call_builtin F.slot_list_getattribute.plain F.entry_list_ga (F.slot_list_getattribute.check _ _ _ _ _ _ _ _ (show (⟨h, g, d, t, os⟩ : Shared).TypeIs (.ref a) "list" from ⟨_, hx, rfl⟩) (F.args_list_getattribute_2 _ _) (keys_entry (by exact hA) hx hq))
theorem lk_list_getattr : typeLookup (.type "list") "__getattr__" = pure none := by rw [typeLookup_type, builtinLookup_eq_fast]; kernel_rfl
theorem keys_by {tk : Tok} {vs : Array Value} {c : Nat} {Q : Value → Shared → Prop} (hA : A.handled = none) (hx : h.get? a = some { cls := .type "list", data := .seq vs c })
    (hq : ∀ h' tk e, Heap.NewAttrErr h h' e (.ref a) "keys" → E (.ref e) ⟨h', g, d, tk, os⟩) :
    wpAny (model prog w) A (getAttrBy (.ref a) (.str "keys" tk) false) Q E ⟨h, g, d, t, os⟩ := by
  have hT : (⟨h, g, d, t, os⟩ : Shared).TypeIs (.ref a) "list" := ⟨_, hx, rfl⟩
  have f2 := F.slot_list_getattribute.lookup
  have f3 := F.slot_list_getattribute.bind (.ref a)
  have f5 := lk_list_getattr
  have f1 := sub_AttributeError
  unfold getAttrBy
  repeat (any_goals (first | assumption | ((with_reducible show wpAny _ _ (call (Value.builtin "list.__getattribute__") _ _) _ _ _); refine wpAny_call (keys_call (by exact hA) hx fun h' tk' e hx' => ?_)) | wp_step))
  obtain ⟨t', u', he⟩ := hx'.there
  repeat (any_goals (first | assumption | with_reducible refine wpAny_loadPart_at he ?_ | wp_step))
  exact hq _ _ _ hx'
theorem keys_attr {vs : Array Value} {c : Nat} {Q : Option Value → Shared → Prop} (hA : A.handled = none) (hx : h.get? a = some { cls := .type "list", data := .seq vs c })
    (hq : ∀ h' tk, (∀ b o, h.get? b = some o → h'.get? b = some o) → Q none ⟨h', g, d, tk, os⟩) :
    wpAny (model prog w) A (getAttr? (.ref a) "keys") Q E ⟨h, g, d, t, os⟩ := by
  have f1 := sub_AttributeError
  unfold getAttr? getAttrBy?
  refine wpAny_bind (wpAny_mkText (wpAny_bind (wpAny_attempt (keys_by hA hx fun h' tk e hx' => ?_))))
  obtain ⟨t', u', he⟩ := hx'.there
  dsimp only
  refine wpAny_bind (wpAny_isInstance (T := "AttributeError") ⟨_, he, rfl⟩ f1 ?_)
  exact wpAny_pure (hq _ _ hx'.keeps)
end
end Mine
end
section
open Builtin
namespace Mine
theorem entry_loop : entryFor table "dict.update.loop" = some Builtin.«dict.update.loop» := entryFor_of_tree (by kernel_rfl)
section
variable {prog : Program} {w : World} {K : Type} [DecidableEq K] {knd : KeyKind prog w K}
theorem pair_items {A : Around} {E : Value → Shared → Prop} {s : Shared} {p : Addr} {a b : Value} {n : Nat} {Q : List Value → Shared → Prop} (hp : s.heap.get? p = some { cls := .type "tuple", data := .seq #[a, b] n }) (h : Q [a, b] s) :
    wpAny (model prog w) A (Builtin.Dict.pairItems (.ref p)) Q E s := by
  unfold Builtin.Dict.pairItems
  refine wpAny_bind (wpAny_typeOf (T := "tuple") ⟨_, hp, rfl⟩ ?_)
  rw [if_pos (by decide)]
  unfold seqItems?
  exact wpAny_bind (wpAny_bind (wpAny_load hp (wpAny_pure (wpAny_pure h))))
theorem dictOf_at {h h' : Heap} {a : Addr} {kvs : List (K × Value)} (x : h.DictOf knd a kvs) (hk : ∀ o, h.get? a = some o → h'.get? a = some o) : h'.DictOf knd a kvs :=
  let ⟨o, es, ep, ho, r⟩ := x
  ⟨o, es, ep, hk o ho, r⟩
theorem dict_loop {l I D : Addr} {its : List Value} {prs : List (K × Value)} (hlen : its.length = prs.length) (hnd : (prs.map (·.1)).Nodup) (hlI : l ≠ I) (hID : I ≠ D) (hlD : l ≠ D) (hsz : prs.length ≤ 100) :
    ∀ (k i : Nat) (A : Around) (R : Result → Shared → Prop) (s : Shared) (tk0 : Tok), A.handled = none → i + k = prs.length → s.heap.IsListIter I l i → s.heap.IsList l its.toArray → s.heap.DictOf knd D (prs.take i) →
      (∀ (j : Nat) kv, prs[j]? = some kv → ∃ p key n, its[j]? = some (.ref p) ∧ s.heap.get? p = some { cls := .type "tuple", data := .seq #[key, kv.2] n } ∧ knd.is kv.1 key = true ∧ p ≠ I ∧ p ≠ D) →
      (∀ h' tk, h'.DictOf knd D prs → (∀ b o, b ≠ I → b ≠ D → s.heap.get? b = some o → h'.get? b = some o) → R (.ok (.ret .none)) { s with heap := h', toks := tk }) →
      codeAny (model prog w) A (.builtin "dict.update.loop" ⟨[.ref D, .ref I, .int i tk0, .none], []⟩) R s := by
  intro k
  induction k with
  | zero =>
    intro i A R s tk0 hA hi hI hl hD hp hR
    refine codeAny_builtin entry_loop ?_
    unfold Builtin.«dict.update.loop»
    dsimp only
    have W := Walks.list (prog := prog) (w := w) (A := A.under (.builtin "dict.update.loop" ⟨[.ref D, .ref I, .int i tk0, .none], []⟩)) (by exact hA) I l hlI its.toArray
    refine wpAny_bind (W.done s _ _ ⟨?_, hl⟩ fun h' tk' hk => ?_)
    · have : its.toArray.size = i := by rw [List.size_toArray]; omega
      rw [this]; exact hI
    · dsimp only
      show wpAny _ _ (Builtin.Dict.addKeywords D [] >>= _) _ _ _
      refine wpAny_bind (wpAny_pure (wpAny_pure (hR h' tk' ?_ fun b o h1 h2 e => hk b o (by simpa using h1) e)))
      have e : prs.take i = prs := List.take_of_length_le (by omega)
      rw [e] at hD
      exact dictOf_at hD fun o e => hk D o (by simpa using Ne.symm hID) e
  | succ k ih =>
    intro i A R s tk0 hA hi hI hl hD hp hR
    obtain ⟨kv, hkv⟩ : ∃ kv, prs[i]? = some kv := ⟨_, List.getElem?_eq_getElem (by omega)⟩
    obtain ⟨p, key, n, hit, hpt, hkey, hpI, hpD⟩ := hp i kv hkv
    refine codeAny_builtin entry_loop ?_
    unfold Builtin.«dict.update.loop»
    dsimp only
    have W := Walks.list (prog := prog) (w := w) (A := A.under (.builtin "dict.update.loop" ⟨[.ref D, .ref I, .int i tk0, .none], []⟩)) (by exact hA) I l hlI its.toArray
    refine wpAny_bind (W.item i s _ _ (by rw [List.size_toArray]; omega) ⟨hI, hl⟩ fun v h₂ tk₂ hv hst hk => ?_)
    have hv2 : v = .ref p := by
      have e : its.toArray[i]? = some v := hv
      rw [List.getElem?_toArray, hit] at e
      exact (Option.some.inj e).symm
    subst hv2
    dsimp only
    have hpt2 := hk p _ (by simpa using hpI) hpt
    have hD2 := dictOf_at hD fun o e => hk D o (by simpa using Ne.symm hID) e
    refine wpAny_bind (wpAny_holding (wpAny_bind (wpAny_tryCatch (pair_items hpt2 ?_))))
    dsimp only
    refine wpAny_holding (wpAny_dictSet_pairs (hsz := by rw [List.length_take, sizeLine_eq]; omega) hkey hD2 fun h₃ hm hs => ?_)
    have hnk : kv.1 ∉ (prs.take i).map (·.1) := by
      intro hm
      obtain ⟨x, hx, hxe⟩ := List.mem_map.mp hm
      obtain ⟨j, hj⟩ := List.mem_iff_getElem?.mp hx
      rw [List.getElem?_take] at hj
      split at hj
      · rename_i hji
        have h1 : (prs.map (·.1))[j]? = some x.1 := by rw [List.getElem?_map, hj]; rfl
        have h2 : (prs.map (·.1))[i]? = some kv.1 := by rw [List.getElem?_map, hkv]; rfl
        rw [hxe] at h1
        have hjl : j < (prs.map (·.1)).length := by rw [List.length_map]; omega
        have hil : i < (prs.map (·.1)).length := by rw [List.length_map]; omega
        rw [List.getElem?_eq_getElem hjl] at h1
        rw [List.getElem?_eq_getElem hil] at h2
        exact List.pairwise_iff_getElem.mp hnd j i hjl hil hji ((Option.some.inj h1).trans (Option.some.inj h2).symm)
      · cases hj
    rw [stored_new hnk] at hm
    have htk : prs.take i ++ [(kv.1, kv.2)] = prs.take (i + 1) := by rw [List.take_add_one, hkv]; rfl
    rw [htk] at hm
    refine wpAny_pure ⟨Code.quiet_builtin _ (by decide +kernel), ?_⟩
    have e : ((i : Int) + 1) = ((i + 1 : Nat) : Int) := by push_cast; rfl
    rw [e]
    have keep : ∀ b o, b ≠ I → b ≠ D → s.heap.get? b = some o → h₃.get? b = some o := fun b o h1 h2 e => hs.extBut b o h2 (hk b o (by simpa using h1) e)
    refine ih (i + 1) A R _ _ hA (by omega) ?_ ?_ hm ?_ ?_
    · obtain ⟨o, ho, r⟩ := hst.1
      exact ⟨o, hs.extBut I o hID ho, r⟩
    · obtain ⟨o, ho, r⟩ := hst.2
      exact ⟨o, hs.extBut l o hlD ho, r⟩
    · intro j kv' hj
      obtain ⟨p', key', n', h1, h2, h3, h4, h5⟩ := hp j kv' hj
      exact ⟨p', key', n', h1, keep _ _ h4 h5 h2, h3, h4, h5⟩
    · intro h' tk hd hk'
      exact hR h' tk hd fun b o h1 h2 e => hk' b o h1 h2 (keep b o h1 h2 e)
theorem dict_pairs {A : Around} {E : Value → Shared → Prop} {s : Shared} {l : Addr} {its : List Value} {c : Nat} {prs : List (K × Value)} {Q : Value → Shared → Prop} (hA : A.handled = none) (hl : s.heap.get? l = some { cls := .type "list", data := .seq its.toArray c })
    (hlen : its.length = prs.length) (hnd : (prs.map (·.1)).Nodup) (hsz : prs.length ≤ 100)
    (hp : ∀ (j : Nat) kv, prs[j]? = some kv → ∃ p key n, its[j]? = some (.ref p) ∧ s.heap.get? p = some { cls := .type "tuple", data := .seq #[key, kv.2] n } ∧ knd.is kv.1 key = true)
    (h : ∀ h' tk D, D = s.heap.objs.size → h'.DictOf knd D prs → s.heap.get? D = none → (∀ b o, s.heap.get? b = some o → h'.get? b = some o) → Q (.ref D) { s with heap := h', toks := tk }) :
    wpAny (model prog w) A (call (.type "dict") [.ref l]) Q E s := by
  refine callType_codes (Q₁ := fun obj s₁ => obj = .ref s.heap.objs.size ∧ s₁ = { s with heap := s.heap.push { cls := .type "dict", data := .dict #[] } }) F.kt_called_dict (F.kt_typeCall_dict_1 _) F.entry_dict_init (kt_code_dict_new _ ⟨rfl, rfl⟩) ?_
  rintro obj s₁ ⟨rfl, rfl⟩
  have hnew : (s.heap.push { cls := .type "dict", data := .dict #[] }).DictOf knd s.heap.objs.size [] := Heap.DictOf.new s.heap
  have hl1 := Heap.get?_push_of_some { cls := .type "dict", data := .dict #[] } hl
  refine ⟨hnew.typeIs, F.args_dict_init_2 _ _, ?_⟩
  unfold Builtin.«dict.__init__»
  refine wpAny_bind ?_
  unfold Builtin.Dict.selfAndRest
  refine wpAny_bind (wpAny_notOrdered_dict hnew.typeIs ?_)
  show wpAny _ _ (pure (s.heap.objs.size, [Value.ref l])) _ _ _
  refine wpAny_pure ?_
  show wpAny _ _ (Builtin.Dict.updateFrom "dict.__init__" s.heap.objs.size (.ref l) [] .none) _ _ _
  unfold Builtin.Dict.updateFrom
  refine wpAny_bind (wpAny_typeOf (T := "list") ⟨_, hl1, rfl⟩ ?_)
  rw [if_pos (by decide)]
  refine wpAny_bind (keys_attr (by exact hA) hl1 fun h₂ tk₂ hk => ?_)
  simp only [Option.isNone_none, if_true]
  refine wpAny_bind (wpAny_rule (wpAny_bind ?_))
  have hl2 := hk _ _ hl1
  refine wpAny_pyIter_list ⟨_, hl2, rfl, c, rfl⟩ ?_
  refine wpAny_pure ⟨Code.quiet_builtin _ (by decide +kernel), ?_⟩
  have hDn : s.heap.get? s.heap.objs.size = none := Heap.get?_none_of_le (Nat.le_refl _)
  have hD2 : h₂.get? s.heap.objs.size = some { cls := .type "dict", data := .dict #[] } := hk _ _ (Heap.get?_push_size _ rfl)
  have hDlt := Heap.lt_size hD2
  have hllt := Heap.lt_size hl
  have up : ∀ b o, h₂.get? b = some o → (h₂.push { cls := .type "list_iterator", data := .fields #[.ref l, .int 0 0] }).get? b = some o := fun b o e => Heap.get?_push_of_some _ e
  have hlD : l ≠ s.heap.objs.size := Nat.ne_of_lt hllt
  refine dict_loop (l := l) (I := h₂.objs.size) (D := s.heap.objs.size) (its := its) (prs := prs) hlen hnd (Nat.ne_of_lt (Heap.lt_size hl2)) (Nat.ne_of_gt hDlt) hlD hsz prs.length 0 A.in1 _ _ 0 (by exact hA) (Nat.zero_add _)
    ⟨_, Heap.get?_push_size _ rfl, rfl, rfl⟩ ⟨_, up _ _ hl2, rfl, c, rfl⟩ (dictOf_at hnew fun o e => up _ _ (hk _ _ e)) (fun j kv hj => ?_) (fun h' tk hd hk' => ?_)
  · obtain ⟨p, key, n, h1, h2, h3⟩ := hp j kv hj
    have h4 := hk _ _ (Heap.get?_push_of_some { cls := .type "dict", data := .dict #[] } h2)
    exact ⟨p, key, n, h1, up _ _ h4, h3, Nat.ne_of_lt (Heap.lt_size h4), Nat.ne_of_lt (Heap.lt_size h2)⟩
  · refine ⟨rfl, h h' tk _ rfl hd hDn fun b o e => ?_⟩
    have e1 := hk _ _ (Heap.get?_push_of_some { cls := .type "dict", data := .dict #[] } e)
    exact hk' b o (Nat.ne_of_lt (Heap.lt_size e1)) (Nat.ne_of_lt (Heap.lt_size e)) (up _ _ e1)
/-- dict([pairs]) with the ledger -/
theorem dict_pairs_K {A : Around} {E : Value → Shared → Prop} {s : Shared} {h₀ : Heap} {L l : Addr} {m : Str → Option Value} {news : Led} {its : List Value} {c : Nat} {prs : List (K × Value)} {Q : Value → Shared → Prop} (hA : A.handled = none) (F : Fr h₀ L s.heap m) (N : News h₀ L s.heap news) (hbig : h₀.NoLimit)
    (hl : (l, W.listOf its.toArray c) ∈ news) (hlen : its.length = prs.length) (hnd : (prs.map (·.1)).Nodup) (hsz : prs.length ≤ 100)
    (hp : ∀ (j : Nat) kv, prs[j]? = some kv → ∃ p key n, its[j]? = some (.ref p) ∧ (p, ({ cls := .type "tuple", data := .seq #[key, kv.2] n } : Obj)) ∈ news ∧ knd.is kv.1 key = true)
    (h : ∀ h' tk D oD, Fr h₀ L h' m → News h₀ L h' ((D, oD) :: news) → oD.IsDictOf knd prs → (D == sysModules) = false → (∀ p ∈ news, @LT.lt Nat _ p.1 D) → Q (.ref D) { s with heap := h', toks := tk }) :
    wpAny (model prog w) A (call (.type "dict") [.ref l]) Q E s := by
  refine dict_pairs (knd := knd) hA (N _ hl).1 hlen hnd hsz (fun j kv hj => ?_) fun h' tk D hDe hd hDn hk => ?_
  · obtain ⟨p, key, n, h1, h2, h3⟩ := hp j kv hj
    exact ⟨p, key, n, h1, (N _ h2).1, h3⟩
  · obtain ⟨o', ho', hd'⟩ := Heap.dictOf_iff.mp hd
    subst hDe
    refine h h' tk _ o' (F.keeps hk) (fun p hp => ?_) hd' (F.notModules (modules_low hbig)) fun p hp => Heap.lt_size (N p hp).1
    rcases List.mem_cons.mp hp with rfl | hp
    · refine ⟨ho', Nat.ne_of_gt F.ns.lt, ?_⟩
      cases q : h₀.get? s.heap.objs.size with
      | none => rfl
      | some o => have := F.keep _ o q; rw [hDn] at this; cases this
    · exact ⟨hk _ _ (N p hp).1, (N p hp).2⟩
end
end Mine
end
section
namespace Mine
theorem off1_mem {D : Addr} : ∀ {l : Led}, LCg.Off1 D l → ∀ p ∈ l, @Ne Nat p.1 D
  | [], _, _, h => nomatch h
  | _ :: _, x, p, h => by
    rcases List.mem_cons.mp h with rfl | h
    · exact x.1
    · exact off1_mem x.2 p h
abbrev pairD (e : Ent) (x : Addr) (t : Tok) : Obj := { cls := .type "tuple", data := .seq #[.int e.key t, .ref x] }
theorem Tbl.nodup {es : List Ent} (h : Tbl es) : (es.map (·.key)).Nodup := h.sorted.imp fun h => by omega
theorem keys_zero (es : List Ent) : (es.map fun e => ({ e with two := 0 } : Ent)).map (·.key) = es.map (·.key) := by rw [List.map_map]; rfl
theorem Tbl.zero {es : List Ent} (h : Tbl es) : Tbl (es.map fun e => ({ e with two := 0 } : Ent)) where
  sorted := by rw [keys_zero]; exact h.sorted
  keys := fun e he => by obtain ⟨x, hx, rfl⟩ := List.mem_map.mp he; exact h.keys x hx
  vals := fun e he => by
    obtain ⟨x, hx, rfl⟩ := List.mem_map.mp he
    obtain ⟨a, b, c, _⟩ := h.vals x hx
    exact ⟨a, b, c, Int.le_refl 0, (by omega : (0 : Int) ≤ 70000)⟩
/-- the pairs of a table -/
inductive PairsAt (Rw : Led → Addr → Ent → Prop) (rest : Led) : List Value → List Ent → Prop
  | nil : PairsAt Rw rest [] []
  | cons {pr x : Addr} {e : Ent} {t : Tok} {ys : List Value} {es : List Ent} : (pr, pairD e x t) ∈ rest → Rw rest x e → PairsAt Rw rest ys es → PairsAt Rw rest (.ref pr :: ys) (e :: es)
theorem PairsAt.mono {Rw : Led → Addr → Ent → Prop} (hm : ∀ r r' x e, Rw r x e → (∀ p ∈ r, p ∈ r') → Rw r' x e) {rest rest' : Led} {ys : List Value} {es : List Ent} (h : PairsAt Rw rest ys es) (hs : ∀ p ∈ rest, p ∈ rest') : PairsAt Rw rest' ys es := by
  induction h with
  | nil => exact .nil
  | cons a b _ ih => exact .cons (hs _ a) (hm _ _ _ _ b hs) ih
theorem PairsAt.snoc {Rw : Led → Addr → Ent → Prop} {rest : Led} {ys : List Value} {es : List Ent} (h : PairsAt Rw rest ys es) {pr x : Addr} {e : Ent} {t : Tok} (a : (pr, pairD e x t) ∈ rest) (b : Rw rest x e) : PairsAt Rw rest (ys ++ [.ref pr]) (es ++ [e]) := by
  induction h with
  | nil => exact .cons a b .nil
  | cons c d _ ih => exact .cons c d ih
theorem PairsAt.length {Rw : Led → Addr → Ent → Prop} {rest : Led} {ys : List Value} {es : List Ent} (h : PairsAt Rw rest ys es) : ys.length = es.length := by
  induction h with
  | nil => rfl
  | cons _ _ _ ih => simp [ih]
theorem PairsAt.tab {w : World} {Rw : Led → Addr → Ent → Prop} {rest : Led} {ys : List Value} {es : List Ent} (h : PairsAt Rw rest ys es) (P : List (Int × Value) → List Ent → Prop) (P0 : P [] []) (P1 : ∀ x e kvs es, Rw rest x e → P kvs es → P ((e.key, .ref x) :: kvs) (e :: es)) :
    ∃ prs : List (Int × Value), ys.length = prs.length ∧ prs.map (·.1) = es.map (·.key) ∧ P prs es ∧ ∀ (j : Nat) kv, prs[j]? = some kv → ∃ p key n, ys[j]? = some (.ref p) ∧ (p, ({ cls := .type "tuple", data := .seq #[key, kv.2] n } : Obj)) ∈ rest ∧ (PySem.intKind prg w).is kv.1 key = true := by
  induction h with
  | nil => exact ⟨[], rfl, rfl, P0, by simp⟩
  | @cons pr x e t ys es a b _ ih =>
    obtain ⟨prs, h1, h2, h3, h4⟩ := ih
    refine ⟨(e.key, .ref x) :: prs, by simp [h1], by simp [h2], P1 _ _ _ _ b h3, fun j kv hj => ?_⟩
    cases j with
    | zero =>
      simp at hj
      subst hj
      exact ⟨pr, .int e.key t, 0, rfl, a, intKind_is _ _ _ _⟩
    | succ j =>
      obtain ⟨p, key, n, g1, g2, g3⟩ := h4 j kv (by simpa using hj)
      exact ⟨p, key, n, by simpa using g1, g2, g3⟩
end Mine
end
section
namespace Mine
/-- what stays true of the table through the law -/
structure Core (w : World) (L pen : Addr) (news : Led) (tb : Addr) (oTab oT oF oS oP : Obj) (rest : Led) (kvs : List (Int × Value)) (es : List Ent) : Prop where
  isPen : PenIs news pen (cellsL L tb oTab oT oF oS oP rest)
  cells : Cells L pen tb oT oF oS oP rest
  dict : Obj.IsDictOf (PySem.intKind prg w) oTab kvs
  lo : (tb == sysModules) = false
  tups : TupsAt rest kvs es
  tbl : Tbl es
  pos : 0 < es.length
  six : es.length ≤ 6
inductive Inv5 (w : World) (h₀ : Heap) (L pen : Addr) (h : Heap) : Prop
  | mk (m : Str → Option Value) (en tb : Addr) (oTab oT oF oS oP : Obj) (rest news : Led) (kvs : List (Int × Value)) (es : List Ent) (oE : Obj) (kvsE : List (Int × Value)) (F : Fr h₀ L h (upd [(Str.ofString "entries", some (.ref en))] m)) (N : News h₀ L h news) (K : Core w L pen news tb oTab oT oF oS oP rest kvs es) (hE : EntTab w rest en oE kvsE es) : Inv5 w h₀ L pen h
/-- more rows at the head of the ledger's rest -/
theorem Cells.more {L pen tb : Addr} {oT oF oS oP : Obj} {rest : Led} (C : Cells L pen tb oT oF oS oP rest) {q : Addr × Obj} (h1 : @LT.lt Nat _ (L + 1 + 1 + 1 + 1) q.1) (h2 : @Ne Nat q.1 tb) : Cells L pen tb oT oF oS oP (q :: rest) :=
  ⟨List.forall_mem_cons.mpr ⟨h1, C.far⟩, List.forall_mem_cons.mpr ⟨h2, C.offT⟩, C.ltT, C.ltP, C.cP, C.cT, C.cF, C.cS⟩
end Mine
end
section
theorem Mine.offT15 : True := by w_top off; trivial
namespace Mine
theorem wid_log (n : Nat) (h : 0 < n) : wid n = (n.log2 + 1 + 7) / 8 := by
  induction n using Nat.strongRecOn with
  | _ n ih =>
    rw [wid_pos h]
    by_cases hn : n < 256
    · have h1 : n / 256 = 0 := by omega
      rw [h1, wid_zero]
      have h2 : n.log2 < 8 := (Nat.log2_lt (by omega)).mpr hn
      omega
    · have hp : 0 < n / 256 := by omega
      rw [ih (n / 256) (by omega) hp]
      have h1 : 2 ^ (n / 256).log2 ≤ n / 256 := Nat.log2_self_le (by omega)
      have h2 : n / 256 < 2 ^ ((n / 256).log2 + 1) := Nat.lt_log2_self
      have h3 : n.log2 = (n / 256).log2 + 8 := by
        rw [Nat.log2_eq_iff (by omega)]
        constructor
        · rw [Nat.pow_add]; omega
        · rw [show (n / 256).log2 + 8 + 1 = ((n / 256).log2 + 1) + 8 by omega, Nat.pow_add]; omega
      omega
theorem wid_bits {n : Int} (h : 0 ≤ n) : (((Builtin.Int.intBits n : Nat) : Int) + 7) / 8 = ((wid n.toNat : Nat) : Int) := by
  unfold Builtin.Int.intBits
  by_cases hn : n = 0
  · subst hn
    simp [wid_zero]
  · have e : n.natAbs = n.toNat := by omega
    simp only [beq_iff_eq, hn, if_false]
    rw [e, wid_log _ (by omega)]
    omega
theorem ints_get {vs : List Value} {ns : List Int} (h : IntsAre vs ns) : ∀ {i : Nat} {v : Value}, vs[i]? = some v → ∃ n t, v = .int n t ∧ ns[i]? = some n := by
  induction h with
  | nil => intro i v hv; simp at hv
  | cons k t' _ ih =>
    intro i v hv
    cases i with
    | zero => simp at hv; exact ⟨k, t', hv.symm, rfl⟩
    | succ i => simp at hv; obtain ⟨n, t, h1, h2⟩ := ih hv; exact ⟨n, t, h1, by simpa using h2⟩
set_option maxHeartbeats 8000000 in
theorem fw_does (w : World) (news : Led) (l : Addr) (vs : List Value) (ns : List Int) (c : Nat) (lowest : Int) (t : Tok) (hl : (l, W.listOf vs.toArray c) ∈ news) (hI : IntsAre vs ns) (hlen : vs.length ≤ 50) (hn : ∀ n ∈ ns, 0 ≤ n) :
    Does w 170 20 600 news [.ref l, .int lowest t] (fun v news' => (∃ M t, v = .int M t ∧ (M = lowest ∨ ∃ n ∈ ns, M = ((wid n.toNat : Nat) : Int)) ∧ lowest ≤ M ∧ ∀ n ∈ ns, ((wid n.toNat : Nat) : Int) ≤ M) ∧ news' = news) := by
  unfold Does
  k_fill
  intro mean mg mb dp un gd cn cs a ccd cl' outer A₀ base h₀ L m s Q E B F X N T hk hdp hun hret
  have hlen2 : vs.length ≤ 100 := by omega
  refine wpAny_call ?_
  k_dflt cell_enter
  ((repeat' ( (fail_if_success (with_reducible show wpAny _ _ (eval (PySem.Expr.ListComp _ _ _ _) _) _ _ _)); (fail_if_success (with_reducible show wpAny _ _ (call (Value.builtin "max") _) _ _ _)); (first | (k_unfold; (try dsimp only)) | (k_end; wrow_close) | walk1 | (dsimp only; walk1) | (leave1; walk_say "STEP leave1"; try dsimp only) | fail "no step"))); all_goals (try k_fold))
  (rename Fr _ _ _ _ => lF')
  (rename News _ _ _ _ => lN')
  obtain ⟨l1, el1, -⟩ := led_1 lN'
  subst el1
  refine LCg.ListComp_U (F₀ := lF') (by with_unfolding_all rfl) (by decide) rfl (by decide) rfl ?_
  ((repeat' ( (fail_if_success (with_reducible show wpAny _ _ (eval (PySem.Expr.ListComp _ _ _ _) _) _ _ _)); (fail_if_success (with_reducible show wpAny _ _ (call (Value.builtin "max") _) _ _ _)); (first | (k_unfold; (try dsimp only)) | (k_end; wrow_close) | walk1 | (dsimp only; walk1) | (leave1; walk_say "STEP leave1"; try dsimp only) | fail "no step"))); all_goals (try k_fold))
  have hsz : vs.toArray.size = ns.length := by rw [List.size_toArray, hI.length]
  refine LCg.CompSrc.ledger (by rfl) lF' lN' (.tail _ hl) (fit100 hlen2) fun g => rest_of_inv (fun i ys nw => nw = (l1, W.listOf #[.int lowest t] 0) :: news ∧ IntsAre ys ((ns.take i).map fun n => ((wid n.toNat : Nat) : Int))) vs.toArray.size ?hS ?hF ?turn vs.toArray.size 0 [] _ (Nat.zero_add _) ⟨rfl, .nil⟩
  case hS =>
    rintro i ys nw ⟨rfl, -⟩
    exact .inr ⟨_, .tail _ hl, rfl, _, rfl⟩
  case turn =>
    rintro i v ys nw I oI Cc oC D m₂ h tk E' QE hQE hi hv ⟨rfl, hys⟩ hoC hx F₁ N₁ oI1 oC1 oD1 n1 n2 n3
    obtain ⟨n, t9, rfl, hnn⟩ := ints_get hI (by simpa using hv)
    have hpos := hn n (List.mem_of_getElem? hnn)
    have hw : ((Builtin.Int.intBits n : Int) + 7).fdiv 8 = ((wid n.toNat : Nat) : Int) := by rw [Int.fdiv_eq_ediv_of_nonneg _ (by decide)]; exact wid_bits hpos
    clear lF' lN'
    try k_fold
    ((repeat' ( (fail_if_success (with_reducible show wpAny _ _ (eval (PySem.Expr.ListComp _ _ _ _) _) _ _ _)); (fail_if_success (with_reducible show wpAny _ _ (call (Value.builtin "max") _) _ _ _)); (first | (k_unfold; (try dsimp only)) | (k_end; wrow_close) | walk1 | (dsimp only; walk1) | (leave1; walk_say "STEP leave1"; try dsimp only) | fail "no step"))); all_goals (try k_fold))
    rw [hw]
    have htk : (ns.take (i + 1)).map (fun n => ((wid n.toNat : Nat) : Int)) = (ns.take i).map (fun n => ((wid n.toNat : Nat) : Int)) ++ [((wid n.toNat : Nat) : Int)] := by
      rw [List.take_add_one, hnn, List.map_append]; rfl
    exact hQE _ _ ⟨_, _, _, rfl, F₁, N₁, oI1, oC1, oD1, rfl, by rw [htk]; exact ints_snoc hys _ _⟩
  case hF =>
    rintro ys nw ⟨rfl, hys⟩
    rw [hsz, List.take_length] at hys
    unfold LCg.FinE
    intro D h tk F₁ N₁ o1
    clear lF' lN'
    try k_fold
    ((repeat' ( (fail_if_success (with_reducible show wpAny _ _ (eval (PySem.Expr.ListComp _ _ _ _) _) _ _ _)); (fail_if_success (with_reducible show wpAny _ _ (call (Value.builtin "max") _) _ _ _)); (first | (k_unfold; (try dsimp only)) | (k_end; wrow_close) | walk1 | (dsimp only; walk1) | (leave1; walk_say "STEP leave1"; try dsimp only) | fail "no step"))); all_goals (try k_fold))
    (rename Fr _ _ _ _ => lF')
    (rename News _ _ _ _ => lN')
    refine kso_max lF' lN' (kso_isList lN' (.head _) rfl) (by assumption) (by simp) rfl ?_
    intro h' M t' tk' F₂ N₂ hM hle
    clear lF' lN'
    try k_fold
    ((repeat' ( (fail_if_success (with_reducible show wpAny _ _ (eval (PySem.Expr.ListComp _ _ _ _) _) _ _ _)); (fail_if_success (with_reducible show wpAny _ _ (call (Value.builtin "max") _) _ _ _)); (first | (k_unfold; (try dsimp only)) | (k_end; wrow_close) | walk1 | (dsimp only; walk1) | (leave1; walk_say "STEP leave1"; try dsimp only) | fail "no step"))); all_goals (try k_fold))
    refine hret _ _ _ _ ⟨⟨_, _, rfl, ?_, ?_, ?_⟩, rfl⟩ (by k_asm) ?_
    · rcases List.mem_append.mp hM with h1 | h1
      · exact .inl (List.mem_singleton.mp h1)
      · obtain ⟨n, h2, h3⟩ := List.mem_map.mp h1
        exact .inr ⟨n, h2, h3.symm⟩
    · exact hle _ (List.mem_append_left _ (List.mem_singleton.mpr rfl))
    · intro n h1
      exact hle _ (List.mem_append_right _ (List.mem_map.mpr ⟨n, h1, rfl⟩))
    · (rename News h₀ L _ _ => lN')
      exact news_sub lN' (by walk_at "MY sub")
end Mine
end
section
namespace Mine
section
variable {prog : Program} {w : World} {A : Around} {E : Value → Shared → Prop} {s : Shared} {h₀ : Heap} {L : Addr} {m : Str → Option Value} {env : Env}
theorem rest_of_invT {ct elt : PySem.Expr} {x : Str} {scope : Scope} {cl : List (Str × Addr)} {S : Led → Prop} {P : Nat → Value → Prop} {Fin : List Value → Led → Prop} (J : Nat → List Value → Led → Prop) (n : Nat)
    (hS : ∀ i ys news, J i ys news → S news) (hF : ∀ ys news, J n ys news → Fin ys news)
    (turn : ∀ i v ys news I oI C oC D m₂ h tk (E' : Value → Shared → Prop), i < n → P i v → J i ys news → LCg.NsObj oC m₂ → m₂ x = some v → Fr h₀ L h m → News h₀ L h ((I, oI) :: (C, oC) :: (D, LCg.lst ys) :: news) →
      (∀ p ∈ news, @Ne Nat p.1 I) → (∀ p ∈ news, @Ne Nat p.1 C) → (∀ p ∈ news, @Ne Nat p.1 D) → @Ne Nat I C → @Ne Nat I D → @Ne Nat C D →
      wpAny (model prog w) A (isTrue ct (compEnvC scope cl C env) (eval ct (compEnvC scope cl C env))) (fun ok s' => if ok = true then
        wpAny (model prog w) A (eval elt (compEnvC scope cl C env)) (EltEnd h₀ L m I C D oI oC (LCg.lst ys) (fun y => J (i + 1) (ys ++ [y])) { s with heap := h, toks := tk }) E' s'
        else EltEnd h₀ L m I C D oI oC (LCg.lst ys) (fun _ => J (i + 1) ys) { s with heap := h, toks := tk } Value.none s') E' { s with heap := h, toks := tk }) :
    ∀ k i ys news, i + k = n → J i ys news → LCt.CompRestT prog w A h₀ L m env ct elt x scope cl s S P Fin k i ys news
  | 0, i, ys, news, e, hJ => LCt.CompRestT.zero (hF _ _ (by rw [Nat.add_zero] at e; rw [← e]; exact hJ))
  | k + 1, i, ys, news, e, hJ => LCt.CompRestT.succ fun v I oI C oC D m₂ h tk E' hP hC hx F N off ⟨n1, n2, n3⟩ => by
    have off' := off.mem
    refine wpAny_mono (turn i v ys news I oI C oC D m₂ h tk E' (by omega) hP hJ hC hx F N (fun p hp => (off' p hp).1) (fun p hp => (off' p hp).2.1) (fun p hp => (off' p hp).2.2) n1 n2 n3) (fun ok s₁ z => ?_) fun _ _ z => z
    cases ok with
    | true =>
      simp only [if_true] at z ⊢
      refine wpAny_mono z (fun y s₂ z => ?_) fun _ _ z => z
      obtain ⟨h', tk', news', rfl, F', N', o1, o2, o3, hJ'⟩ := z
      exact ⟨h', tk', news', rfl, F', N', LCg.Off3.of fun p hp => ⟨o1 p hp, o2 p hp, o3 p hp⟩, hS _ _ _ hJ', rest_of_invT J n hS hF turn k (i + 1) (ys ++ [y]) news' (by omega) hJ'⟩
    | false =>
      simp only [Bool.false_eq_true, if_false] at z ⊢
      obtain ⟨h', tk', news', rfl, F', N', o1, o2, o3, hJ'⟩ := z
      exact ⟨h', tk', news', rfl, F', N', LCg.Off3.of fun p hp => ⟨o1 p hp, o2 p hp, o3 p hp⟩, hS _ _ _ hJ', rest_of_invT J n hS hF turn k (i + 1) ys news' (by omega) hJ'⟩
inductive SrcDictT {K : Type} [DecidableEq K] (prog : Program) (w : World) (A : Around) (h₀ : Heap) (L : Addr) (m : Str → Option Value) (env : Env) (ct elt : PySem.Expr) (x : Str) (scope : Scope) (cl : List (Str × Addr)) (knd : KeyKind prog w K) (Q : Value → Shared → Prop) (xv : Value) (s₁ : Shared) : Prop
  | mk (d : Addr) (o : Obj) (kvs : List (K × Value)) (news : Led) (e1 : xv = .ref d) (e2 : Fr h₀ L s₁.heap m) (e3 : News h₀ L s₁.heap news) (e4 : (d, o) ∈ news) (e5 : o.IsDictOf knd kvs) (e6 : (d == sysModules) = false) (e7 : kvs.length ≤ sizeLine)
      (e8 : ∀ g, LCt.CompRestT prog w A h₀ L m env ct elt x scope cl { s₁ with heap := g } (fun nw => (d, o) ∈ nw) (fun i v => ∃ k y, kvs[i]? = some (k, y) ∧ knd.is k v = true) (LCg.FinE h₀ L m { s₁ with heap := g } Q) kvs.length 0 [] news) : SrcDictT prog w A h₀ L m env ct elt x scope cl knd Q xv s₁
/-- a list comprehension with a test over a dict's keys -/
theorem comp_dictT {K : Type} [DecidableEq K] {knd : KeyKind prog w K} {ct elt iter : PySem.Expr} {x : Str} {px : Pos} {scope : Scope} {cl : List (Str × Addr)} {pos : Pos} {Q : Value → Shared → Prop}
    (hclos : closureFor scope env = pure cl) (hcell : ∀ y ∈ scope.names, y.2 ≠ .cell) (hkind : scope.kind = .function)
    (hnames : ∀ y ∈ scope.names, y.2 = .local → scope.names.lookup y.1 = some .local) (hx : scope.names.lookup x = some .local) (hh : A.handled = none)
    (h : wpAny (model prog w) A (eval iter env) (SrcDictT prog w A h₀ L m env ct elt x scope cl knd Q) E s)
    (hs : ∀ x, foldedSetIterable iter env x = pure x := by intro _; rfl) :
    wpAny (model prog w) A (eval (.ListComp elt [⟨.Name x px, iter, [ct], 0⟩] scope pos) env) Q E s := by
  rw [eval_ListComp]
  refine wpAny_comprehension_free (use := none) rfl hs hclos hkind hnames (wpAny_mono h (fun xv s₁ h₁ => ?_) fun _ _ e => e)
  obtain ⟨d, o, kvs, news, rfl, F, N, hm, hd, lo, hsz, R⟩ := h₁
  obtain ⟨ep, ha⟩ := KdkAt.of hd
  have hda := ha.dictAt (N _ hm).1
  have hlt : d < s₁.heap.objs.size := Heap.lt_size (N _ hm).1
  refine wpAny_pyIter_dict lo hda ?_
  refine LCt.block_T (Walks.dictKeys (knd := knd) hh s₁.heap.objs.size d (Nat.ne_of_lt hlt) kvs ep) hsz (fun i h st => by obtain ⟨o, e, _⟩ := st.1; exact ⟨o, e⟩)
    (fun i h h' o nw st e e' k N S => ⟨by obtain ⟨o', q, r⟩ := st.1; rw [e] at q; cases q; exact ⟨o, e', r⟩, ha.dictAt (N _ S).1⟩) hcell hkind hx
    ⟨⟨_, Heap.get?_push_size _ rfl, rfl, rfl⟩, hda.at' fun o e => Heap.get?_push_of_some _ e⟩ (fun b hb => ?_)
    (F.push _) (fun p hp => ⟨Heap.get?_push_of_some _ (N p hp).1, (N p hp).2⟩) (Nat.ne_of_lt F.ns.lt) (next_is_new F) (fun p hp => Nat.ne_of_lt (Heap.lt_size (N p hp).1)) hm (R _) ?_
  · show b < (s₁.heap.push _).objs.size
    rw [Heap.size_push]
    rcases List.mem_cons.mp hb with rfl | hb
    · exact Nat.lt_succ_self _
    · rw [List.mem_singleton.mp hb]; exact Nat.lt_succ_of_lt hlt
  · intro D C h tk m' ys news' F' N' o1 hn hC₀ hD₀ hCL hDL hCD offC fin
    refine ⟨m', hn, fun h'' hs'' => fin D h'' tk (F'.change hs'' hCL hC₀) (fun p hp => ?_) o1⟩
    refine ⟨hs''.extBut _ _ ?_ (N' p hp).1, (N' p hp).2⟩
    rcases List.mem_cons.mp hp with rfl | hp
    · exact Ne.symm hCD
    · exact offC p hp
end
end Mine
end
section
namespace Mine
abbrev tup3 (a b c : Int) (t1 t2 t3 : Tok) : Obj := { cls := .type "tuple", data := .seq #[.int a t1, .int b t2, .int c t3] }
section
variable {w : World} {L pen tb : Addr} {news : Led} {oTab oT oF oS oP : Obj} {rest : Led} {kvs : List (Int × Value)} {es : List Ent}
theorem Core.inRest (K : Core w L pen news tb oTab oT oF oS oP rest kvs es) : ∀ p ∈ rest, p ∈ news := by
  obtain ⟨⟨cl, k, tk, r, tr, vs, ns, n, rfl, hI, hl, hne, hr1, hr2⟩, C, hdT, lo, hTu, hTb, hes0, hes⟩ := K
  intro p hp
  exact .tail _ (.tail _ (.tail _ (.tail _ (.tail _ (.tail _ (.tail _ hp))))))
theorem Core.inTab (K : Core w L pen news tb oTab oT oF oS oP rest kvs es) : (tb, oTab) ∈ news := by
  obtain ⟨⟨cl, k, tk, r, tr, vs, ns, n, rfl, hI, hl, hne, hr1, hr2⟩, C, hdT, lo, hTu, hTb, hes0, hes⟩ := K
  exact .tail _ (.tail _ (.head _))
theorem Core.inT (K : Core w L pen news tb oTab oT oF oS oP rest kvs es) : (L + 1 + 1, oT) ∈ news := by
  obtain ⟨⟨cl, k, tk, r, tr, vs, ns, n, rfl, hI, hl, hne, hr1, hr2⟩, C, hdT, lo, hTu, hTb, hes0, hes⟩ := K
  exact .tail _ (.tail _ (.tail _ (.head _)))
theorem Core.inF (K : Core w L pen news tb oTab oT oF oS oP rest kvs es) : (L + 1 + 1 + 1, oF) ∈ news := by
  obtain ⟨⟨cl, k, tk, r, tr, vs, ns, n, rfl, hI, hl, hne, hr1, hr2⟩, C, hdT, lo, hTu, hTb, hes0, hes⟩ := K
  exact .tail _ (.tail _ (.tail _ (.tail _ (.head _))))
theorem Core.inS (K : Core w L pen news tb oTab oT oF oS oP rest kvs es) : (L + 1 + 1 + 1 + 1, oS) ∈ news := by
  obtain ⟨⟨cl, k, tk, r, tr, vs, ns, n, rfl, hI, hl, hne, hr1, hr2⟩, C, hdT, lo, hTu, hTb, hes0, hes⟩ := K
  exact .tail _ (.tail _ (.tail _ (.tail _ (.tail _ (.head _)))))
theorem Core.inP (K : Core w L pen news tb oTab oT oF oS oP rest kvs es) : (L + 1, oP) ∈ news := by
  obtain ⟨⟨cl, k, tk, r, tr, vs, ns, n, rfl, hI, hl, hne, hr1, hr2⟩, C, hdT, lo, hTu, hTb, hes0, hes⟩ := K
  exact .tail _ (.tail _ (.tail _ (.tail _ (.tail _ (.tail _ (.head _))))))
/-- one new object more in the ledger -/
theorem Core.more (K : Core w L pen news tb oTab oT oF oS oP rest kvs es) (q : Addr × Obj) (lt : ∀ p ∈ news, @LT.lt Nat _ p.1 q.1) :
    ∃ news', Core w L pen news' tb oTab oT oF oS oP (q :: rest) kvs es ∧ (∀ p ∈ news', p ∈ q :: news) ∧ (∀ p ∈ q :: news, p ∈ news') := by
  have c1 := lt _ K.inTab
  have c2 := lt _ K.inT
  have c3 := lt _ K.inF
  have c4 := lt _ K.inS
  have c5 := lt _ K.inP
  obtain ⟨⟨cl, k, tk, r, tr, vs, ns, n, rfl, hI, hl, hne, hr1, hr2⟩, C, hdT, lo, hTu, hTb, hes0, hes⟩ := K
  have c6 := lt _ (.head _)
  have c7 := lt _ (.tail _ (.head _))
  dsimp only at c1 c2 c3 c4 c5 c6 c7
  have ins : ∀ (Pq : Addr × Obj → Prop), (∀ p ∈ cellsL L tb oTab oT oF oS oP rest, Pq p) → Pq q → ∀ p ∈ cellsL L tb oTab oT oF oS oP (q :: rest), Pq p := by
    intro Pq h1 h2
    simp only [cellsL, List.forall_mem_cons] at h1 ⊢
    obtain ⟨g1, g2, g3, g4, g5, g6⟩ := h1
    exact ⟨g1, g2, g3, g4, g5, h2, g6⟩
  have l1 := C.ltT
  have l2 := C.ltP
  refine ⟨_, ⟨⟨cl, k, tk, r, tr, vs, ns, n, rfl, hI, hl, hne, ins _ hr1 ?a, ins _ hr2 ?b⟩, Cells.more C ?c ?d, hdT, lo, hTu.mono fun p hp => .tail _ hp, hTb, hes0, hes⟩, ?e, ?f⟩
  case a => show @Ne Nat _ _; omega
  case b => show @Ne Nat _ _; omega
  case c => show @LT.lt Nat _ _ _; omega
  case d => show @Ne Nat _ _; omega
  case e => simp only [cellsL, List.mem_cons]; intro p hp; rcases hp with h | h | h | h | h | h | h | h | h <;> simp [h]
  case f => simp only [cellsL, List.mem_cons]; intro p hp; rcases hp with h | h | h | h | h | h | h | h | h <;> simp [h]
end
/-- behind the least widths -/
inductive Inv7 (w : World) (h₀ : Heap) (L pen : Addr) (h : Heap) : Prop
  | mk (m : Str → Option Value) (en lw : Addr) (t1 t2 t3 : Tok) (tb : Addr) (oTab oT oF oS oP : Obj) (rest news : Led) (kvs : List (Int × Value)) (es : List Ent) (oE : Obj) (kvsE : List (Int × Value)) (F : Fr h₀ L h (upd [(Str.ofString "entries", some (.ref en)), (Str.ofString "least_widths", some (.ref lw))] m)) (N : News h₀ L h news) (K : Core w L pen news tb oTab oT oF oS oP rest kvs es) (hE : EntTab w rest en oE kvsE es)
    (hw : (lw, tup3 (mixN es) (topOne es : Nat) (topTwo es : Nat) t1 t2 t3) ∈ rest) : Inv7 w h₀ L pen h
end Mine
end
section
namespace Mine
theorem rst_nat (n : Nat) : ∀ i : Nat, rst (n : Int) i = ((n / 256 ^ i : Nat) : Int)
  | 0 => by simp [rst]
  | i + 1 => by
    show (rst (n : Int) i).fdiv 256 = _
    rw [rst_nat n i, Nat.pow_succ, ← Nat.div_div_eq_div_mul]
    rw [Int.fdiv_eq_ediv_of_nonneg _ (by decide)]
    omega
theorem lt_wid (n : Nat) : n < 256 ^ wid n := by
  induction n using Nat.strongRecOn with
  | _ n ih =>
    by_cases h : n = 0
    · subst h; rw [wid_zero]; decide
    · rw [wid_pos (by omega), Nat.pow_succ]
      have := ih (n / 256) (by omega)
      omega
theorem wid_le {n : Nat} (h : 0 < n) : 256 ^ (wid n - 1) ≤ n := by
  induction n using Nat.strongRecOn with
  | _ n ih =>
    rw [wid_pos h, Nat.add_sub_cancel]
    by_cases hn : n < 256
    · have e : n / 256 = 0 := by omega
      rw [e, wid_zero]; show 1 ≤ n; omega
    · have h2 := ih (n / 256) (by omega) (by omega)
      have h3 := wid_pos (n := n / 256) (by omega)
      have h4 : wid (n / 256) = (wid (n / 256) - 1) + 1 := by omega
      rw [h4, Nat.pow_succ]
      omega
theorem rst_fits {n : Int} {k : Nat} (h0 : 0 ≤ n) (h : wid n.toNat ≤ k) : rst n k = 0 := by
  have e : n = ((n.toNat : Nat) : Int) := by omega
  rw [e, rst_nat]
  have h1 := lt_wid n.toNat
  have h2 : 256 ^ wid n.toNat ≤ 256 ^ k := Nat.pow_le_pow_right (by decide) h
  rw [Nat.div_eq_of_lt (by omega)]
  rfl
theorem rst_over {n : Int} {k : Nat} (h0 : 0 ≤ n) (h : k < wid n.toNat) : rst n k ≠ 0 := by
  have e : n = ((n.toNat : Nat) : Int) := by omega
  rw [e, rst_nat]
  have hp : 0 < n.toNat := by
    rcases Nat.eq_zero_or_pos n.toNat with z | z
    · rw [z, wid_zero] at h; omega
    · exact z
  have h1 := wid_le hp
  have h2 : 256 ^ k ≤ 256 ^ (wid n.toNat - 1) := Nat.pow_le_pow_right (by decide) (by omega)
  have h3 : 0 < n.toNat / 256 ^ k := Nat.div_pos (by omega) (Nat.pow_pos (by decide))
  omega
theorem wid_small {n : Nat} (h : n ≤ 70000) : wid n ≤ 3 := by
  rcases Nat.lt_or_ge (wid n) 4 with q | q
  · omega
  · exfalso
    have hp : 0 < n := by
      rcases Nat.eq_zero_or_pos n with z | z
      · rw [z, wid_zero] at q; omega
      · exact z
    have h1 := wid_le hp
    have h2 : 256 ^ 3 ≤ 256 ^ (wid n - 1) := Nat.pow_le_pow_right (by decide) (by omega)
    have h3 : (256 : Nat) ^ 3 = 16777216 := by decide
    omega
/-- a ledger with more rows ahead -/
theorem PenIs.add {news rest : Led} {pen : Addr} (P : PenIs news pen rest) (ext : Led) (off : ∀ q ∈ ext, ∀ p ∈ news, @Ne Nat p.1 q.1) : ∃ news', PenIs news' pen (ext ++ rest) ∧ ∀ p ∈ news', p ∈ ext ++ news := by
  obtain ⟨cl, k, tk, r, tr, vs, ns, n, rfl, hI, hl, hne, hr1, hr2⟩ := P
  refine ⟨_, ⟨cl, k, tk, r, tr, vs, ns, n, rfl, hI, hl, hne, fun p hp => ?_, fun p hp => ?_⟩, fun p hp => ?_⟩
  · rcases List.mem_append.mp hp with h | h
    · exact fun e => off p h _ (.head _) e.symm
    · exact hr1 p h
  · rcases List.mem_append.mp hp with h | h
    · exact fun e => off p h _ (.tail _ (.head _)) e.symm
    · exact hr2 p h
  · rcases List.mem_cons.mp hp with h | hp
    · rw [h]; exact List.mem_append_right _ (.head _)
    · rcases List.mem_cons.mp hp with h | hp
      · rw [h]; exact List.mem_append_right _ (.tail _ (.head _))
      · rcases List.mem_append.mp hp with h | h
        · exact List.mem_append_left _ h
        · exact List.mem_append_right _ (.tail _ (.tail _ h))
theorem PenIs.inRest {news rest : Led} {pen : Addr} (P : PenIs news pen rest) : ∀ p ∈ rest, p ∈ news := by
  obtain ⟨cl, k, tk, r, tr, vs, ns, n, rfl, hI, hl, hne, hr1, hr2⟩ := P
  exact fun p hp => .tail _ (.tail _ hp)
theorem PenIs.drop {news ext rest : Led} {pen : Addr} (P : PenIs news pen (ext ++ rest)) : ∃ news', PenIs news' pen rest ∧ (∀ p ∈ ext ++ news', p ∈ news) ∧ ∀ q ∈ ext, (∀ p ∈ rest, @Ne Nat p.1 q.1) → ∀ p ∈ news', @Ne Nat p.1 q.1 := by
  obtain ⟨cl, k, tk, r, tr, vs, ns, n, rfl, hI, hl, hne, hr1, hr2⟩ := P
  refine ⟨_, ⟨cl, k, tk, r, tr, vs, ns, n, rfl, hI, hl, hne, fun p hp => hr1 p (List.mem_append_right _ hp), fun p hp => hr2 p (List.mem_append_right _ hp)⟩, fun p hp => ?_, fun q hq ho p hp => ?_⟩
  · rcases List.mem_append.mp hp with h | hp
    · exact .tail _ (.tail _ (List.mem_append_left _ h))
    · rcases List.mem_cons.mp hp with h | hp
      · rw [h]; exact .head _
      · rcases List.mem_cons.mp hp with h | hp
        · rw [h]; exact .tail _ (.head _)
        · exact .tail _ (.tail _ (List.mem_append_right _ hp))
  · rcases List.mem_cons.mp hp with h | hp
    · rw [h]; exact fun e => hr1 q (List.mem_append_left _ hq) e.symm
    · rcases List.mem_cons.mp hp with h | hp
      · rw [h]; exact fun e => hr2 q (List.mem_append_left _ hq) e.symm
      · exact ho p hp
inductive DrawIn (many : Int) (pen : Addr) (rest ext : Led) (v : Value) (all : Led) : Prop
  | mk (d : Int) (td : Tok) (news' : Led) (e : v = .int d td) (h0 : 0 ≤ d) (h1 : d < many) (e2 : all = ext ++ news') (P : PenIs news' pen rest) (off : ∀ q ∈ ext, ∀ p ∈ news', @Ne Nat p.1 q.1) : DrawIn many pen rest ext v all
inductive PickIn (its : List Value) (pen : Addr) (rest ext : Led) (v : Value) (all : Led) : Prop
  | mk (news' : Led) (h : v ∈ its) (e2 : all = ext ++ news') (P : PenIs news' pen rest) (off : ∀ q ∈ ext, ∀ p ∈ news', @Ne Nat p.1 q.1) : PickIn its pen rest ext v all
/-- a pick, with more rows ahead of the ledger -/
theorem pick_in (w : World) (news rest ext : Led) (pen l : Addr) (its : List Value) (ep : Nat) (h1 : 0 < its.length) (h2 : its.length ≤ 10) (P : PenIs news pen rest) (off : ∀ q ∈ ext, ∀ p ∈ news, @Ne Nat p.1 q.1) (hm : (l, W.listOf its.toArray ep) ∈ ext ++ rest) :
    Does w 158 20 300 (ext ++ news) [.ref pen, .ref l] (PickIn its pen rest ext) := by
  unfold Does
  intro mean mg mb dp un gd cn cs a ccd cl' outer A₀ base h₀ L m s Q E B F X N T hk hdp hun hret
  obtain ⟨news1, P1, i1⟩ := P.add ext off
  refine pick_does w news1 (ext ++ rest) pen l its ep h1 h2 P1 hm mean mg mb dp un gd cn cs a ccd cl' outer A₀ base h₀ L m s Q E B F X (news_sub N i1) T hk hdp hun ?_
  rintro v news2 h2 tk2 ⟨hv, P2⟩ F2 N2
  obtain ⟨news3, P3, i3, o3⟩ := P2.drop
  exact hret _ _ _ _ ⟨news3, hv, rfl, P3, fun q hq => o3 q hq fun p hp => off q hq p (P.inRest p hp)⟩ F2 (news_sub N2 i3)
/-- a draw, with more rows ahead of the ledger -/
theorem draw_in (w : World) (news rest ext : Led) (pen : Addr) (many : Int) (tm : Tok) (hm : 0 < many) (hm2 : many ≤ 100000) (P : PenIs news pen rest) (off : ∀ q ∈ ext, ∀ p ∈ news, @Ne Nat p.1 q.1) :
    Does w 151 10 200 (ext ++ news) [.ref pen, .int many tm] (DrawIn many pen rest ext) := by
  unfold Does
  intro mean mg mb dp un gd cn cs a ccd cl' outer A₀ base h₀ L m s Q E B F X N T hk hdp hun hret
  obtain ⟨news1, P1, i1⟩ := P.add ext off
  refine draw_does w news1 (ext ++ rest) pen many tm hm hm2 P1 mean mg mb dp un gd cn cs a ccd cl' outer A₀ base h₀ L m s Q E B F X (news_sub N i1) T hk hdp hun ?_
  rintro v news2 h2 tk2 ⟨d, td, rfl, h0, h1, P2⟩ F2 N2
  obtain ⟨news3, P3, i3, o3⟩ := P2.drop
  exact hret _ _ _ _ ⟨d, td, news3, rfl, h0, h1, rfl, P3, fun q hq => o3 q hq fun p hp => off q hq p (P.inRest p hp)⟩ F2 (news_sub N2 i3)
section
variable {w : World} {L pen tb : Addr} {news news' : Led} {oTab oT oF oS oP : Obj} {rest : Led} {kvs : List (Int × Value)} {es : List Ent}
theorem Core.drawn (K : Core w L pen news tb oTab oT oF oS oP rest kvs es) (P : PenIs news' pen (cellsL L tb oTab oT oF oS oP rest)) : Core w L pen news' tb oTab oT oF oS oP rest kvs es :=
  ⟨P, K.cells, K.dict, K.lo, K.tups, K.tbl, K.pos, K.six⟩
end
section
variable {prog : Program} {w : World} {A : Around} {E : Value → Shared → Prop} {s : Shared} {h₀ : Heap} {L : Addr} {m : Str → Option Value} {env : Env}
noncomputable def SrcTup (prog : Program) (w : World) (A : Around) (h₀ : Heap) (L : Addr) (m : Str → Option Value) (env : Env) (elt : PySem.Expr) (x : Str) (scope : Scope) (cl : List (Str × Addr)) (Q : Value → Shared → Prop) (xv : Value) (s₁ : Shared) : Prop :=
  ∃ d its c news, xv = .ref d ∧ Fr h₀ L s₁.heap m ∧ News h₀ L s₁.heap news ∧ (d, ({ cls := .type "tuple", data := .seq its c } : Obj)) ∈ news ∧ its.size ≤ sizeLine ∧
      ∀ g, LCg.CompRest prog w A h₀ L m env elt x scope cl { s₁ with heap := g } (fun nw => (d, ({ cls := .type "tuple", data := .seq its c } : Obj)) ∈ nw) (fun i v => its[i]? = some v) (LCg.FinE h₀ L m { s₁ with heap := g } Q) its.size 0 [] news
/-- a list comprehension over a tuple -/
theorem comp_tup {elt iter : PySem.Expr} {x : Str} {px : Pos} {scope : Scope} {cl : List (Str × Addr)} {pos : Pos} {Q : Value → Shared → Prop}
    (hclos : closureFor scope env = pure cl) (hcell : ∀ y ∈ scope.names, y.2 ≠ .cell) (hkind : scope.kind = .function)
    (hnames : ∀ y ∈ scope.names, y.2 = .local → scope.names.lookup y.1 = some .local) (hx : scope.names.lookup x = some .local) (hh : A.handled = none)
    (h : wpAny (model prog w) A (eval iter env) (SrcTup prog w A h₀ L m env elt x scope cl Q) E s)
    (hs : ∀ x, foldedSetIterable iter env x = pure x := by intro _; rfl) :
    wpAny (model prog w) A (eval (.ListComp elt [⟨.Name x px, iter, [], 0⟩] scope pos) env) Q E s := by
  rw [eval_ListComp]
  refine wpAny_comprehension_free (use := none) rfl hs hclos hkind hnames (wpAny_mono h (fun xv s₁ h₁ => ?_) fun _ _ e => e)
  obtain ⟨d, its, c, news, rfl, F, N, hm, hsz, R⟩ := h₁
  have hl : s₁.heap.IsTuple d its := ⟨_, (N _ hm).1, rfl, c, rfl⟩
  have hlt : d < s₁.heap.objs.size := Heap.lt_size (N _ hm).1
  refine wpAny_pyIter_tuple hl ?_
  refine LCg.block_U (Walks.tuple hh s₁.heap.objs.size d (Nat.ne_of_lt hlt) its) hsz (fun i h st => by obtain ⟨o, e, _⟩ := st.1; exact ⟨o, e⟩)
    (fun i h h' o nw st e e' k N S => ⟨by obtain ⟨o', q, r⟩ := st.1; rw [e] at q; cases q; exact ⟨o, e', r⟩, ⟨_, (N _ S).1, rfl, c, rfl⟩⟩) hcell hkind hx
    ⟨⟨_, Heap.get?_push_size _ rfl, rfl, rfl⟩, hl.at fun o e => Heap.get?_push_of_some _ e⟩ (fun b hb => ?_)
    (F.push _) (fun p hp => ⟨Heap.get?_push_of_some _ (N p hp).1, (N p hp).2⟩) (Nat.ne_of_lt F.ns.lt) (next_is_new F) (fun p hp => Nat.ne_of_lt (Heap.lt_size (N p hp).1)) hm (R _) ?_
  · show b < (s₁.heap.push _).objs.size
    rw [Heap.size_push]
    rcases List.mem_cons.mp hb with rfl | hb
    · exact Nat.lt_succ_self _
    · rw [List.mem_singleton.mp hb]; exact Nat.lt_succ_of_lt hlt
  · intro D C h tk m' ys news' F' N' o1 hn hC₀ hD₀ hCL hDL hCD offC fin
    refine ⟨m', hn, fun h'' hs'' => fin D h'' tk (F'.change hs'' hCL hC₀) (fun p hp => ?_) o1⟩
    refine ⟨hs''.extBut _ _ ?_ (N' p hp).1, (N' p hp).2⟩
    rcases List.mem_cons.mp hp with rfl | hp
    · exact Ne.symm hCD
    · exact offC p hp
end
end Mine
end
section
namespace Mine
section
variable {prog : Program} {w : World} {A : Around} {E : Value → Shared → Prop} {s : Shared} {h₀ : Heap} {L : Addr} {m : Str → Option Value} {env : Env}
noncomputable def SrcTupA (prog : Program) (w : World) (A : Around) (h₀ : Heap) (L : Addr) (m : Str → Option Value) (env : Env) (elt : PySem.Expr) (x : Str) (scope : Scope) (cl : List (Str × Addr)) (y : Str) (Q : Flow → Shared → Prop) (xv : Value) (s₁ : Shared) : Prop :=
  ∃ d its c news, xv = .ref d ∧ Fr h₀ L s₁.heap m ∧ News h₀ L s₁.heap news ∧ (d, ({ cls := .type "tuple", data := .seq its c } : Obj)) ∈ news ∧ its.size ≤ sizeLine ∧
      ∀ g, LCg.CompRest prog w A h₀ L m env elt x scope cl { s₁ with heap := g } (fun nw => (d, ({ cls := .type "tuple", data := .seq its c } : Obj)) ∈ nw) (fun i v => its[i]? = some v) (LCg.FinA h₀ L m { s₁ with heap := g } y Q) its.size 0 [] news
/-- a name bound to a list comprehension over a tuple -/
theorem assign_comp_tup {elt iter : PySem.Expr} {x y : Str} {px py : Pos} {scope : Scope} {cl : List (Str × Addr)} {pos spos : Pos} {Q : Flow → Shared → Prop} (hLe : env.locals = L)
    (hsw : swapsWith (.ListComp elt [⟨.Name x px, iter, [], 0⟩] scope pos) (some (.Name y py)) spos.line env = pure true)
    (hclos : closureFor scope env = pure cl) (hcell : ∀ y ∈ scope.names, y.2 ≠ .cell) (hkind : scope.kind = .function)
    (hnames : ∀ y ∈ scope.names, y.2 = .local → scope.names.lookup y.1 = some .local) (hx : scope.names.lookup x = some .local) (hh : A.handled = none)
    (hy : env.kindOf y = some .local) (hp : (env.scope.kind == .class || (env.scope.kind == .module && env.locals != env.globals)) = false)
    (h : wpAny (model prog w) A (eval iter env) (SrcTupA prog w A h₀ L m env elt x scope cl y Q) E s)
    (hs : ∀ x, foldedSetIterable iter env x = pure x := by intro _; rfl) :
    wpAny (model prog w) A (exec (.Assign [.Name y py] (.ListComp elt [⟨.Name x px, iter, [], 0⟩] scope pos) spos) env) Q E s := by
  subst hLe
  rw [exec_Assign_Name_used _ _ _ _ hsw]
  refine wpAny_bind (wpAny_standAt (wpAny_bind ?_))
  show wpAny _ A (do let _ ← comprehension (.ListComp elt [⟨.Name x px, iter, [], 0⟩] scope pos) scope env _ (newList []) false (eval iter env) (some (assign (.Name y py) env))) _ _ s
  refine wpAny_bind (wpAny_mono (wpAny_comprehension_free (use := some (assign (.Name y py) env)) (Q := fun _ s' => Q .next s') rfl hs hclos hkind hnames
    (wpAny_mono h (fun xv s₁ h₁ => ?_) fun _ _ e => e)) (fun _ s' hq => wpAny_pure (wpAny_pure hq)) fun _ _ e => e)
  obtain ⟨d, its, c, news, rfl, F, N, hm, hsz, R⟩ := h₁
  have hl : s₁.heap.IsTuple d its := ⟨_, (N _ hm).1, rfl, c, rfl⟩
  have hlt : d < s₁.heap.objs.size := Heap.lt_size (N _ hm).1
  refine wpAny_pyIter_tuple hl ?_
  refine LCg.block_U (Walks.tuple hh s₁.heap.objs.size d (Nat.ne_of_lt hlt) its) hsz (fun i h st => by obtain ⟨o, e, _⟩ := st.1; exact ⟨o, e⟩)
    (fun i h h' o nw st e e' k N S => ⟨by obtain ⟨o', q, r⟩ := st.1; rw [e] at q; cases q; exact ⟨o, e', r⟩, ⟨_, (N _ S).1, rfl, c, rfl⟩⟩) hcell hkind hx
    ⟨⟨_, Heap.get?_push_size _ rfl, rfl, rfl⟩, hl.at fun o e => Heap.get?_push_of_some _ e⟩ (fun b hb => ?_)
    (F.push _) (fun p hp => ⟨Heap.get?_push_of_some _ (N p hp).1, (N p hp).2⟩) (Nat.ne_of_lt F.ns.lt) (next_is_new F) (fun p hp => Nat.ne_of_lt (Heap.lt_size (N p hp).1)) hm (R _) ?_
  · show b < (s₁.heap.push _).objs.size
    rw [Heap.size_push]
    rcases List.mem_cons.mp hb with rfl | hb
    · exact Nat.lt_succ_self _
    · rw [List.mem_singleton.mp hb]; exact Nat.lt_succ_of_lt hlt
  · intro D C h' tk m' ys news' F' N' o1 hn hC₀ hD₀ hCL hDL hCD offC fin
    show wpAny _ A (assign (.Name y py) env (.ref D)) _ _ _
    refine wpAny_assign_Name (wpAny_storeName_local hy F'.ns (fun h₂ hn₂ hs₂ => ?_) hp)
    have hL₀ : h₀.get? env.locals = none := Heap.get?_none_of_le F'.above
    have F₂ : Fr h₀ env.locals h₂ (fun z => if z = y then some (.ref D) else m z) := ⟨hn₂, fun b o e => hs₂.extBut b o (fun q => by rw [q, hL₀] at e; cases e) (F'.keep b o e), F'.above⟩
    refine ⟨m', hn.sameBut hs₂ hCL, fun h'' hs'' => fin D h'' _ (F₂.change hs'' hCL hC₀) (fun p hp => ?_) o1⟩
    have z : h₂.get? p.1 = some p.2 := hs₂.extBut _ _ (N' p hp).2.1 (N' p hp).1
    refine ⟨hs''.extBut _ _ ?_ z, (N' p hp).2⟩
    rcases List.mem_cons.mp hp with rfl | hp
    · exact Ne.symm hCD
    · exact offC p hp
end
end Mine
end
section
namespace Mine
section
variable {prog : Program} {w : World} {A : Around} {E : Value → Shared → Prop} {s : Shared}
theorem nextOf_tup_item {it l : Addr} {i : Nat} {items : Array Value} {x : Value} {Q : Value → Shared → Prop} (hit : s.heap.IsTupleIter it l i) (hl : s.heap.IsTuple l items) (hx : items[i]? = some x)
    (hQ : ∀ h', h'.IsTupleIter it l (i + 1) → Heap.SameBut it s.heap h' → Q x { s with heap := h' }) : wpAny (model prog w) A (Builtin.SmallTypes.nextOf (.ref it)) Q E s := by
  obtain ⟨o, ho, hc, hd⟩ := id hit
  obtain ⟨ol, hol, _, nl, hdl⟩ := hl
  unfold Builtin.SmallTypes.nextOf
  refine wpAny_bind (wpAny_callSpecial?_slot (name := Str.ofString "__next__") hit.typeIs F.slot_tuple_iterator_next (wpAny_call_entry F.slot_tuple_iterator_next hit.typeIs F.entry_tuple_iterator_next ?_ (F.args_tuple_iterator_next_1 _)))
  show wpAny _ _ (field (.ref it) 0 >>= _) _ _ s
  refine wpAny_bind (wpAny_field ho hd (x := .ref l) rfl ?_)
  show wpAny _ _ (if (Value.ref l == Value.none) = true then _ else _) _ _ s
  rw [if_neg (show ¬ ((Value.ref l == Value.none) = true) from Bool.false_ne_true)]
  show wpAny _ _ (field (.ref it) 1 >>= _) _ _ s
  refine wpAny_bind (wpAny_field ho hd (x := .int i 0) rfl ?_)
  show wpAny _ _ (seqItems? (.ref l) >>= _) _ _ s
  refine wpAny_bind (wpAny_seqItems hol hdl ?_)
  simp only [Int.toNat_natCast, hx]
  refine wpAny_bind (wpAny_setField ho hd (by simp) (wpAny_pure ⟨x, rfl, wpAny_pure (hQ _ ?_ (Heap.SameBut.update ..))⟩))
  exact ⟨_, Heap.get?_update_self _ ho (Obj.isFreed_of_fields (Obj.data_mapFields hd _)), (Obj.cls_mapFields ..).trans hc, by rw [Obj.data_mapFields hd]; simp [rawInt]⟩
theorem nextOf_tup_end {it l : Addr} {i : Nat} {items : Array Value} {Q : Value → Shared → Prop} (hh : A.handled = none) (hit : s.heap.IsTupleIter it l i) (hl : s.heap.IsTuple l items) (hx : items[i]? = none)
    (hE : ∀ h' e, Heap.ExtBut it s.heap h' → (∃ o, h'.get? e = some o ∧ o.cls = .type "StopIteration") → E (.ref e) { s with heap := h' }) : wpAny (model prog w) A (Builtin.SmallTypes.nextOf (.ref it)) Q E s := by
  obtain ⟨o, ho, hc, hd⟩ := id hit
  obtain ⟨ol, hol, _, nl, hdl⟩ := hl
  unfold Builtin.SmallTypes.nextOf
  refine wpAny_bind (wpAny_callSpecial?_slot (name := Str.ofString "__next__") hit.typeIs F.slot_tuple_iterator_next (wpAny_call_entry F.slot_tuple_iterator_next hit.typeIs F.entry_tuple_iterator_next ?_ (F.args_tuple_iterator_next_1 _)))
  show wpAny _ _ (field (.ref it) 0 >>= _) _ _ s
  refine wpAny_bind (wpAny_field ho hd (x := .ref l) rfl ?_)
  show wpAny _ _ (if (Value.ref l == Value.none) = true then _ else _) _ _ s
  rw [if_neg (show ¬ ((Value.ref l == Value.none) = true) from Bool.false_ne_true)]
  show wpAny _ _ (field (.ref it) 1 >>= _) _ _ s
  refine wpAny_bind (wpAny_field ho hd (x := .int i 0) rfl ?_)
  show wpAny _ _ (seqItems? (.ref l) >>= _) _ _ s
  refine wpAny_bind (wpAny_seqItems hol hdl ?_)
  simp only [Int.toNat_natCast, hx]
  refine wpAny_bind (wpAny_rule (wpAny_bind (wpAny_setField ho hd (by simp) ?_)))
  show wpAny _ _ (newExc (.type "StopIteration") [] >>= _) _ _ _
  refine wpAny_bind ?_
  simp only [newExc, newTuple]
  refine wpAny_bind (wpAny_newObj_type ?_ (by size_fits))
  refine wpAny_bind (m := firstArgMember _ _) (wpAny_of_eq (a := Value.none) (by first | rfl | (simp only [firstArgMember]; rfl)) ?_)
  refine wpAny_newObj_type ?_ (by size_fits)
  simp only [raiseNew]
  refine wpAny_bind (wpAny_handled ?_)
  first | rw [show A.in1.handled = none from hh] | rw [hh]
  refine wpAny_bind (wpAny_pure (wpAny_throw ?_))
  exact hE _ _ (((Heap.SameBut.update ..).extBut.push _).push _) ⟨_, Heap.get?_push_size _ rfl, rfl⟩
theorem draws_tup (hh : A.handled = none) (it l : Addr) (hne : l ≠ it) (items : Array Value) : Draws prog w A it [it, l] items.size (fun i v => items[i]? = some v) (fun i h => h.IsTupleIter it l i ∧ h.IsTuple l items) where
  live := fun _ _ st => let ⟨o, ho, _⟩ := st.1; ⟨o, ho⟩
  frame := fun _ _ _ st hk => ⟨st.1.at fun o e => hk it (by simp) o e, st.2.at fun o e => hk l (by simp) o e⟩
  item := fun i s Q E hi st hQ => by
    refine nextOf_tup_item st.1 st.2 (x := items[i]) (by simp [hi]) fun h' hit' hs' => ?_
    exact hQ _ h' s.toks (by simp [hi]) ⟨hit', st.2.extBut hs'.extBut hne⟩ hs'
  done := fun s Q E st hE => nextOf_tup_end hh st.1 st.2 (by simp) hE
end
theorem meets_enum_tup (l : Addr) (items : Array Value) (n : Nat) (dct : Option Addr) (sl : Array (Option Value)) :
    Meets (Builtin.«enumerate.__new__» ⟨[.type "enumerate", .ref l], []⟩) (fun _ R s => s.heap.get? l = some { cls := .type "tuple", dict := dct, data := .seq items n, slots := sl } ∧
      R (.ok (.ret (.ref (s.heap.push { cls := .type "tuple_iterator", data := .fields #[.ref l, .int 0 0] }).objs.size)))
        { s with heap := (s.heap.push { cls := .type "tuple_iterator", data := .fields #[.ref l, .int 0 0] }).push { cls := .type "enumerate", data := .fields #[.none, .bool false, .ref s.heap.objs.size, rawInt 0, .none, .none] } }) :=
  .of_wp fun prog w A R s h => by
    obtain ⟨hp, g, d, tk, os⟩ := s; obtain ⟨hl, h⟩ := h
    have hsub := sub_enumerate
    have hL : Heap.IsTuple (Shared.heap ⟨hp, g, d, tk, os⟩) l items := ⟨_, hl, rfl, n, rfl⟩
    wp_walk using AutoSeq1.wpAny_loadPart' hl
    refine wpAny_stack_any fun st => wpAny_pure ?_
    split
    · rename_i c _ _ _ _ _
      cases (c == Value.type "enumerate")
      · wp_walk using AutoSeq1.wpAny_loadPart' hl, wpAny_pyIter_tuple hL
        exact ⟨_, rfl, h⟩
      · wp_walk using AutoSeq1.wpAny_loadPart' hl, wpAny_pyIter_tuple hL
        exact ⟨_, rfl, h⟩
    · wp_walk using AutoSeq1.wpAny_loadPart' hl, wpAny_pyIter_tuple hL
      exact ⟨_, rfl, h⟩
section
variable {prog : Program} {w : World} {A : Around} {E : Value → Shared → Prop} {s : Shared}
theorem call_enum_tup {l : Addr} {items : Array Value} {Q : Value → Shared → Prop} (hL : s.heap.IsTuple l items)
    (h : ∀ h', IsEnum h' (s.heap.objs.size + 1) s.heap.objs.size 0 .none → h'.IsTupleIter s.heap.objs.size l 0 → (∀ b o, s.heap.get? b = some o → h'.get? b = some o) → Q (.ref (s.heap.objs.size + 1)) { s with heap := h' }) :
    wpAny (model prog w) A (call (.type "enumerate") [.ref l]) Q E s := by
  obtain ⟨⟨c, dct, dt, sl⟩, hl, hc, n, hd⟩ := hL
  replace hc : c = .type "tuple" := hc
  replace hd : dt = .seq items n := hd
  subst hc hd
  refine callType_new F.called_enumerate (by decide) (F.typeCall_enumerate_1 _) (F.newCall_enumerate_1 _) (fun obj => F.args_object_init_2 obj _) F.entry_enumerate_new (meets_enum_tup l items n dct sl) ⟨hl, ?_⟩
  have hz : (s.heap.push { cls := .type "tuple_iterator", data := .fields #[.ref l, .int 0 0] }).objs.size = s.heap.objs.size + 1 := Heap.size_push ..
  show _ ∧ _
  rw [hz]
  have he : IsEnum ((s.heap.push { cls := .type "tuple_iterator", data := .fields #[.ref l, .int 0 0] }).push { cls := .type "enumerate", data := .fields #[.none, .bool false, .ref s.heap.objs.size, rawInt 0, .none, .none] }) (s.heap.objs.size + 1) s.heap.objs.size 0 .none := by
    have := Heap.get?_push_size (s.heap.push { cls := .type "tuple_iterator", data := .fields #[.ref l, .int 0 0] }) (o := { cls := .type "enumerate", data := .fields #[.none, .bool false, .ref s.heap.objs.size, rawInt 0, .none, .none] }) rfl
    rw [hz] at this; exact this
  exact ⟨⟨_, he, rfl⟩, h _ he ⟨_, Heap.get?_push_of_some _ (Heap.get?_push_size _ rfl), rfl, rfl⟩ fun b o x => Heap.get?_push_of_some _ (Heap.get?_push_of_some _ x)⟩
end
end Mine
end
section
open PyProof.Rows.LCg
namespace Mine
section
variable {prog : Program} {w : World} {A : Around} {E : Value → Shared → Prop} {s : Shared} {h₀ : Heap} {L : Addr} {m : Str → Option Value} {env : Env}
noncomputable def EnumSt (e it d : Addr) (its : Array Value) (i : Nat) (h : Heap) : Prop := (∃ old, IsEnum h e it i old) ∧ h.IsTupleIter it d i ∧ h.IsTuple d its
/-- the source of a comprehension over enumerate(a tuple), its element without an effect -/
inductive SrcEnum (prog : Program) (w : World) (A : Around) (h₀ : Heap) (L : Addr) (m : Str → Option Value) (env : Env) (elt : PySem.Expr) (a b : Str) (scope : Scope) (cl : List (Str × Addr)) (y : Str) (Q : Flow → Shared → Prop) (xv : Value) (s₁ : Shared) : Prop
  | mk (e it d : Addr) (its : Array Value) (news : Led) (P : Nat → Value → Prop) (q1 : xv = .ref e) (q2 : EnumSt e it d its 0 s₁.heap) (q3 : Fr h₀ L s₁.heap m) (q4 : News h₀ L s₁.heap news) (q5 : @Ne Nat e it) (q6 : @Ne Nat d e) (q7 : @Ne Nat d it) (q8 : ∀ p ∈ news, @Ne Nat p.1 e) (q9 : ∀ p ∈ news, @Ne Nat p.1 it) (q10 : h₀.get? e = none) (q11 : h₀.get? it = none) (q12 : @Ne Nat L e) (q13 : @Ne Nat L it) (q14 : its.size ≤ sizeLine)
    (q15 : ∀ (i : Nat) x t m₂ C oC h tk (E' : Value → Shared → Prop), its[i]? = some x → NsObj oC m₂ → m₂ a = some (.int (i : Int) t) → m₂ b = some x → Fr h₀ L h m → News h₀ L h ((C, oC) :: news) →
      wpAny (model prog w) A (eval elt (compEnvC scope cl C env)) (fun v s' => (∃ tk', s' = { s₁ with heap := h, toks := tk' }) ∧ P i v) E' { s₁ with heap := h, toks := tk })
    (q16 : ∀ D h tk ys, ys.length = its.size → (∀ (i : Nat) v, ys[i]? = some v → P i v) → Fr h₀ L h (fun z => if z = y then some (.ref D) else m z) → News h₀ L h ((D, lst ys) :: news) → (∀ p ∈ news, @Ne Nat p.1 D) → Q .next { s₁ with heap := h, toks := tk }) : SrcEnum prog w A h₀ L m env elt a b scope cl y Q xv s₁
inductive EnI (s₁ : Shared) (P : Nat → Value → Prop) (h₀ : Heap) (L : Addr) (m : Str → Option Value) (e it d C D : Addr) (its : Array Value) (news : Led) (k : Nat) (s' : Shared) : Prop
  | mk (h' : Heap) (tk i : Nat) (ys : List Value) (m' : Str → Option Value) (e1 : s' = { s₁ with heap := h', toks := tk }) (e2 : i ≤ its.size) (e3 : k = its.size + 1 - i) (e4 : ys.length = i) (e5 : ∀ (j : Nat) v, ys[j]? = some v → P j v) (e6 : EnumSt e it d its i h') (e7 : Fr h₀ L h' m) (e8 : h'.Ns C m') (e9 : News h₀ L h' ((D, lst ys) :: news)) : EnI s₁ P h₀ L m e it d C D its news k s'
theorem assign_comp_enum {elt iter : PySem.Expr} {a b y : Str} {pa pb tp py : Pos} {kk : Nat} {scope : Scope} {cl : List (Str × Addr)} {pos spos : Pos} {Q : Flow → Shared → Prop} (hLe : env.locals = L)
    (hsw : swapsWith (.ListComp elt [⟨.Tuple [.Name a pa, .Name b pb] kk tp, iter, [], 0⟩] scope pos) (some (.Name y py)) spos.line env = pure true)
    (hclos : closureFor scope env = pure cl) (hcell : ∀ z ∈ scope.names, z.2 ≠ .cell) (hkind : scope.kind = .function)
    (hnames : ∀ z ∈ scope.names, z.2 = .local → scope.names.lookup z.1 = some .local) (hxa : scope.names.lookup a = some .local) (hxb : scope.names.lookup b = some .local) (hab : ¬ a = b) (hh : A.handled = none)
    (hy : env.kindOf y = some .local) (hp : (env.scope.kind == .class || (env.scope.kind == .module && env.locals != env.globals)) = false)
    (h : wpAny (model prog w) A (eval iter env) (SrcEnum prog w A h₀ L m env elt a b scope cl y Q) E s)
    (hs : ∀ x, foldedSetIterable iter env x = pure x := by intro _; rfl) :
    wpAny (model prog w) A (exec (.Assign [.Name y py] (.ListComp elt [⟨.Tuple [.Name a pa, .Name b pb] kk tp, iter, [], 0⟩] scope pos) spos) env) Q E s := by
  subst hLe
  rw [exec_Assign_Name_used _ _ _ _ hsw]
  refine wpAny_bind (wpAny_standAt (wpAny_bind ?_))
  show wpAny _ A (do let _ ← comprehension (.ListComp elt [⟨.Tuple [.Name a pa, .Name b pb] kk tp, iter, [], 0⟩] scope pos) scope env _ (newList []) false (eval iter env) (some (assign (.Name y py) env))) _ _ s
  refine wpAny_bind (wpAny_mono (wpAny_comprehension_free (use := some (assign (.Name y py) env)) (Q := fun _ s' => Q .next s') rfl hs hclos hkind hnames
    (wpAny_mono h (fun xv s₁ h₁ => ?_) fun _ _ e => e)) (fun _ s' hq => wpAny_pure (wpAny_pure hq)) fun _ _ e => e)
  obtain ⟨e, it, d, its, news, P, rfl, hst, F, N, hei, hde, hdi, offe, offi, he₀, hi₀, hLe, hLi, hsz, turn, fin⟩ := h₁
  have W := KTurns.ofWalksU (elts := [.Name a pa, .Name b pb]) (k := kk) (pos := tp) (WalksT.enumerateD (draws_tup (prog := prog) (w := w) (A := A.in1) (by exact hh) it d hdi its) e hei (by simp only [List.mem_cons, List.not_mem_nil, or_false]; rintro (q | q); exact hei q; exact hde q.symm) (by simp)).toU
  obtain ⟨⟨old₀, hE₀⟩, hI₀, hT₀⟩ := id hst
  refine wpAny_pyIter_enum hE₀ ?_
  have hlt_e : @LT.lt Nat _ e s₁.heap.objs.size := Heap.lt_size hE₀
  have hlt_i : @LT.lt Nat _ it s₁.heap.objs.size := by obtain ⟨_, q, _⟩ := hI₀; exact Heap.lt_size q
  have hlt_L : @LT.lt Nat _ env.locals s₁.heap.objs.size := F.ns.lt
  refine wpAny_newObj_type (wpAny_newFunctionEnv hcell (by intro y hy; simp at hy) (fun h₁ hns₁ hsb₁ => ?_) hkind)
  dsimp only at hns₁ hsb₁ ⊢
  generalize hH2 : s₁.heap.push { cls := .type "list", dict := none, data := .seq ([] : List Value).toArray } = H2 at hns₁ hsb₁ ⊢
  have hC : H2.objs.size = s₁.heap.objs.size + 1 := by rw [← hH2, Heap.size_push]
  obtain ⟨D, hD⟩ : ∃ D : Addr, D = s₁.heap.objs.size := ⟨_, rfl⟩
  obtain ⟨C, hCe⟩ : ∃ C : Addr, C = H2.objs.size := ⟨_, rfl⟩
  have eC : @Eq Nat C (s₁.heap.objs.size + 1) := hCe.trans hC
  have eD : @Eq Nat D s₁.heap.objs.size := hD
  have acc0 : H2.get? s₁.heap.objs.size = some (lst []) := by rw [← hH2]; exact Heap.get?_push_size _ rfl
  rw [← hD] at acc0
  rw [← hD, ← hCe]
  rw [← hCe] at hns₁ hsb₁
  have old : ∀ c o, s₁.heap.get? c = some o → h₁.get? c = some o := fun c o q => hsb₁.extBut c o (by have z : @LT.lt Nat _ c s₁.heap.objs.size := Heap.lt_size q; show @Ne Nat _ _; omega) (Heap.get?_push_of_some _ (hH2 ▸ Heap.get?_push_of_some _ q))
  have fresh₀ : ∀ c : Addr, @LE.le Nat _ s₁.heap.objs.size c → h₀.get? c = none := fun c hc => by
    cases q : h₀.get? c with
    | none => rfl
    | some o' =>
      have z : @LT.lt Nat _ c s₁.heap.objs.size := Heap.lt_size (F.keep c o' q)
      omega
  have hC₀ : h₀.get? C = none := fresh₀ C (by omega)
  have hD₀ : h₀.get? D = none := fresh₀ D (by omega)
  have hCL : @Ne Nat C env.locals := by omega
  have hDL : @Ne Nat D env.locals := by omega
  have hDC : @Ne Nat D C := by omega
  have offC : ∀ p ∈ news, @Ne Nat p.1 C := fun p hp => by have z : @LT.lt Nat _ p.1 s₁.heap.objs.size := Heap.lt_size (N p hp).1; omega
  have offD : ∀ p ∈ news, @Ne Nat p.1 D := fun p hp => by have z : @LT.lt Nat _ p.1 s₁.heap.objs.size := Heap.lt_size (N p hp).1; omega
  have hCe' : @Ne Nat C e := by omega
  have hCi' : @Ne Nat C it := by omega
  have hDe' : @Ne Nat D e := by omega
  have hDi' : @Ne Nat D it := by omega
  have hdlt : @LT.lt Nat _ d s₁.heap.objs.size := by obtain ⟨_, q, _⟩ := hT₀; exact Heap.lt_size q
  have hCd : @Ne Nat C d := by omega
  have hDd : @Ne Nat D d := by omega
  have hst₁ : EnumSt e it d its 0 h₁ := W.frame _ _ _ hst fun c _ o q => old c o q
  have hacc : h₁.get? D = some (lst []) := hsb₁.extBut D _ hDC (Heap.get?_push_of_some _ acc0)
  obtain ⟨⟨old₁, hE₁⟩, -, -⟩ := id hst₁
  have ne₀ : ∀ (c : Addr) o, h₀.get? c = some o → c ≠ e ∧ c ≠ it ∧ c ≠ C ∧ c ≠ D := fun c o q => by
    refine ⟨fun z => ?_, fun z => ?_, fun z => ?_, fun z => ?_⟩
    · rw [z, he₀] at q; cases q
    · rw [z, hi₀] at q; cases q
    · rw [z, hC₀] at q; cases q
    · rw [z, hD₀] at q; cases q
  have loop : ∀ R : Result → Shared → Prop, (∀ h₂ tk ys m', ys.length = its.size → (∀ (j : Nat) v, ys[j]? = some v → P j v) → Fr h₀ env.locals h₂ m → h₂.Ns C m' → News h₀ env.locals h₂ ((D, lst ys) :: news) → R (.ok .next) { s₁ with heap := h₂, toks := tk }) →
      codeAny (model prog w) A (.compLoop (.ListComp elt [⟨.Tuple [.Name a pa, .Name b pb] kk tp, iter, [], 0⟩] scope pos) 0 (.ref e) (.ref D) (compEnvC scope cl C env)) R { s₁ with heap := h₁, toks := s₁.toks + ([] : List (Str × Value)).length } := by
    intro R hR
    refine kcp_loop (EnI s₁ P h₀ env.locals m e it d C D its news) ?_ (its.size + 1)
      ⟨h₁, _, 0, [], _, rfl, Nat.zero_le _, rfl, rfl, fun j v q => by simp at q, hst₁, F.keeps old, hns₁, fun p hp => ?_⟩
    · rintro k s' ⟨h', tk, i, ys, m', rfl, hi, rfl, hyl, hP, hst', F', hn', N'⟩
      by_cases hlt : i < its.size
      · refine W.item i _ _ _ hlt hst' fun v h₂ tk₂ hMd hk₂ => ?_
        refine W.go i v _ _ _ hMd fun h₃ hPv hst₃ hk₃ => ?_
        obtain ⟨T, vals, rfl, ⟨t, x, hx, rfl⟩, hT⟩ := hPv
        have up₃ : ∀ (c : Addr) o, c ≠ e → c ≠ it → h'.get? c = some o → h₃.get? c = some o := fun c o q1 q2 q => hk₃ c o (by simp [q1, q2]) (hk₂ c o (by simp [q1, q2]) q)
        refine kcp_assign (env := compEnvC scope cl C env) hh hT (lookup_relabel_local hxa) (lookup_relabel_local hxb) (by simp [compEnvC, relabel, hkind]) (hn'.at' fun o q => up₃ _ o hCe' hCi' q) fun h₄ tk₄ hn₄ hs₄ => ?_
        have up : ∀ (c : Addr) o, c ≠ e → c ≠ it → c ≠ C → h'.get? c = some o → h₄.get? c = some o := fun c o q1 q2 q3 q => hs₄ c o q3 (up₃ c o q1 q2 q)
        have hst₄ : EnumSt e it d its (i + 1) h₄ := W.frame _ _ _ hst₃ fun c hc o q => hs₄ c o (fun z => by
          rcases List.mem_cons.mp hc with q1 | hc
          · exact hCe' (z.symm.trans q1)
          · rcases List.mem_cons.mp hc with q1 | hc
            · exact hCi' (z.symm.trans q1)
            · exact hCd (z.symm.trans (List.mem_singleton.mp hc))) q
        obtain ⟨oC, heC, hoC⟩ := ns_obj hn₄
        have F₄ : Fr h₀ env.locals h₄ m := ⟨F'.ns.at' fun o q => up _ o hLe hLi (fun z => hCL z.symm) q, fun c o q => up c o (ne₀ c o q).1 (ne₀ c o q).2.1 (ne₀ c o q).2.2.1 (F'.keep c o q), F'.above⟩
        have N₄ : News h₀ env.locals h₄ ((D, lst ys) :: news) := fun p hp => by
          have z := N' p hp
          rcases List.mem_cons.mp hp with rfl | hp
          · exact ⟨up _ _ hDe' hDi' hDC z.1, z.2⟩
          · exact ⟨up _ _ (offe p hp) (offi p hp) (offC p hp) z.1, z.2⟩
        refine wpAny_mono (turn i x t _ C oC h₄ tk₄ _ hx hoC (by simp [hab]) (by simp) F₄ (fun p hp => ?_)) (fun v s₅ h₅ => ?_) fun _ _ q => q
        · rcases List.mem_cons.mp hp with rfl | hp
          · exact ⟨heC, hCL, hC₀⟩
          · exact N₄ p (.tail _ hp)
        · obtain ⟨⟨tk₅, rfl⟩, hPy⟩ := h₅
          refine append_at (hsz := by show ys.toArray.size ≤ sizeLine; rw [List.size_toArray, hyl]; exact Nat.le_trans hi hsz) (N₄ _ (.head _)).1 fun h₆ hs₆ hD₆ => ?_
          refine ⟨its.size + 1 - (i + 1), by omega, h₆, tk₅, i + 1, ys ++ [v], _, rfl, hlt, rfl, by rw [List.length_append, List.length_singleton, hyl], fun j u q => ?_, W.frame _ _ _ hst₄ fun c hc o q => hs₆.extBut c o (fun z => ?_) q, F₄.change hs₆ hDL hD₀, hn₄.sameBut hs₆ (fun z => hDC z.symm), fun p hp => ?_⟩
          · rcases Nat.lt_trichotomy j ys.length with hj | hj | hj
            · rw [List.getElem?_append_left hj] at q; exact hP j u q
            · subst hj
              rw [List.getElem?_append_right (Nat.le_refl _)] at q
              simp at q
              subst q
              rw [hyl]; exact hPy
            · rw [List.getElem?_eq_none (by simp; omega)] at q; cases q
          · rcases List.mem_cons.mp hc with q1 | hc
            · exact hDe' (z.symm.trans q1)
            · rcases List.mem_cons.mp hc with q1 | hc
              · exact hDi' (z.symm.trans q1)
              · exact hDd (z.symm.trans (List.mem_singleton.mp hc))
          · rcases List.mem_cons.mp hp with rfl | hp
            · exact ⟨hD₆.trans (congrArg some (lst_snoc ys v)), hDL, hD₀⟩
            · exact ⟨hs₆.extBut _ _ (offD p hp) (N₄ p (.tail _ hp)).1, (N p hp).2⟩
      · have hin : i = its.size := by omega
        subst hin
        refine W.done _ _ _ hst' fun h₂ tk₂ hk₂ => ?_
        have up₂ : ∀ (c : Addr) o, c ≠ e → c ≠ it → h'.get? c = some o → h₂.get? c = some o := fun c o q1 q2 q => hk₂ c o (by simp [q1, q2]) q
        have F₂ : Fr h₀ env.locals h₂ m := ⟨F'.ns.at' fun o q => up₂ _ o hLe hLi q, fun c o q => up₂ c o (ne₀ c o q).1 (ne₀ c o q).2.1 (F'.keep c o q), F'.above⟩
        refine hR h₂ tk₂ ys m' hyl hP F₂ (hn'.at' fun o q => up₂ _ o hCe' hCi' q) fun p hp => ?_
        have z := N' p hp
        rcases List.mem_cons.mp hp with rfl | hp
        · exact ⟨up₂ _ _ hDe' hDi' z.1, z.2⟩
        · exact ⟨up₂ _ _ (offe p hp) (offi p hp) z.1, z.2⟩
    · rcases List.mem_cons.mp hp with rfl | hp
      · exact ⟨hacc, hDL, hD₀⟩
      · exact ⟨old _ _ (N p hp).1, (N p hp).2⟩
  refine codeAny_compStart_list (loop _ ?fin) (wpAny_pyIter_enum hE₁ (loop _ ?fin))
  case fin =>
    intro h₂ tk ys m' hyl hP F₂ hn₂ N₂
    show wpAny _ A (assign (.Name y py) env (.ref D)) _ _ _
    refine wpAny_assign_Name (wpAny_storeName_local hy F₂.ns (fun h₃ hn₃ hs₃ => ?_) hp)
    have hL₀ : h₀.get? env.locals = none := Heap.get?_none_of_le F₂.above
    have F₃ : Fr h₀ env.locals h₃ (fun z => if z = y then some (.ref D) else m z) := ⟨hn₃, fun c o q => hs₃.extBut c o (fun z => by rw [z, hL₀] at q; cases q) (F₂.keep c o q), F₂.above⟩
    refine ⟨m', hn₂.sameBut hs₃ hCL, fun h'' hs'' => fin D h'' _ ys hyl hP (F₃.change hs'' hCL hC₀) (fun p hp => ?_) offD⟩
    have z := N₂ p hp
    rcases List.mem_cons.mp hp with rfl | hp
    · exact ⟨hs''.extBut _ _ hDC (hs₃.extBut _ _ hDL z.1), z.2⟩
    · exact ⟨hs''.extBut _ _ (offC p hp) (hs₃.extBut _ _ z.2.1 z.1), z.2⟩
end
end Mine
end
section
open PySem PySem.W PyProof.Rows PySem.Calls PySem.Spec
local macro_rules | `(tactic| walk_at "exec For") => `(tactic| (k_here; (rename Fr _ _ _ _ => lF'); (with_unfolding_all refine' For_invVF (hE := ?hE) lF' ?k1 ?k2 ?_; (case k1 => exact rfl); (case k2 => exact rfl); (case hE => assumption); k_whole)))
local macro_rules | `(tactic| walk_at "subscriptTail") => `(tactic| (k_here; (with_reducible show wpAny _ _ (subscriptTail _ _ (Value.ref _) (Value.int (Mine.Ent.key _) _)) _ _ _); k_dflt (refine' kda_item (knd := PySem.intKind _ _) ?my1 ?my2 ?my3 (intKind_is _ _ _ _) ?my4 ?_ ?my5 ?my6; (case my1 => k_asm); (case my2 => k_mem); (case my3 => assumption); (case my4 => assumption); (case my5 => with_unfolding_all rfl); (case my6 => intro _; with_unfolding_all rfl))))
local macro_rules | `(tactic| walk_at "MY call") => `(tactic| ((case k1 => k_asm); (case k2 => k_asm); (case k3 => k_asm); (case k4 => exact Mine.news_sub (by k_asm) (by walk_at "MY sub")); (case k5 => k_asm); (case k6 => first | exact rfl | assumption); (case k7 => ktr_room); (case k8 => ktr_units)))
local macro_rules | `(tactic| walk_at "MY ne") => `(tactic| first | assumption | exact Ne.symm (by assumption) | (show @Ne Nat _ _; omega))
local macro_rules | `(tactic| walk_at "MY far") => `(tactic| first | assumption | exact List.forall_mem_nil _ | (refine List.forall_mem_cons.mpr ⟨?_, ?_⟩; (walk_at "MY ne"); (walk_at "MY far")))
local macro_rules | `(tactic| walk_at "MY lfar") => `(tactic| first | assumption | exact List.forall_mem_nil _ | (refine List.forall_mem_cons.mpr ⟨?_, ?_⟩; (show @LT.lt Nat _ _ _; omega); (walk_at "MY lfar")))
section
theorem Mine.offL1 : True := by w_top off; trivial
namespace Mine
noncomputable def Zst1.G (w : World) (h₀ : Heap) (L : Addr) (fa : Addr) (pen : Addr) (cl : Addr) (ccd : Value) (mean : ExcName → Option Value) (mg : Str → Option Value) (mb : Str → Option Value) (Q : Flow → Shared → Prop) (E : Value → Shared → Prop) (hp : Heap) (gs : Array GenState) (dr : Drawn) (tks : Nat) (os : OsState) (m : Str → Option Value) (tk : Tok) (tr : Tok) (vs : List Value) (ns : List Int) (n : Nat) (oS : Obj) (oF : Obj) (oT : Obj) (oP : Obj) : Prop :=
  ∀ (B : Below callerA h₀ [] h₀), ∀ (X : (hd.heap_1 w.params).In h₀), ∀ (T : Top hview (looseW hview [Str.ofString "PaperError"]) mean mg mb h₀), ∀ (F : Fr h₀ L hp m), ∀ (N : News h₀ L hp [(pen, W.listOf #[.ref cl, .int 0 tk, .int 0 tr] 0), (cl, W.listOf vs.toArray n), (L + 1 + 1 + 1 + 1, oS), (L + 1 + 1 + 1, oF), (L + 1 + 1, oT), (L + 1, oP)]), ∀ (hI : IntsAre vs ns), ∀ (hl : vs.length ≤ 100), ∀ (l1 : @LT.lt Nat _ (L + 1 + 1 + 1 + 1) pen), ∀ (l2 : @LT.lt Nat _ cl pen), ∀ (l3 : @Ne Nat cl (L + 1 + 1 + 1 + 1) ∧ @Ne Nat cl (L + 1 + 1 + 1) ∧ @Ne Nat cl (L + 1 + 1) ∧ @Ne Nat cl (L + 1)), ∀ (dP : oP.data = .cell (some (.ref pen))), ∀ (dT : oT.data = .cell none), ∀ (dF : oF.data = .cell none), ∀ (dS : oS.data = .cell none), ∀ (next : ∀ h tk, Inv3 w h₀ L pen h → wpAny (model PySem.Challenge.rw_og0136_01.row.prog w) (callerA.deeper (lawE L fa ccd)) (lawT 3 L fa ccd) Q E (⟨h, gs, dr, tk, os⟩ : Shared)), wpAny (model PySem.Challenge.rw_og0136_01.row.prog w) (callerA.deeper (lawE L fa ccd)) (lawT 1 L fa ccd) Q E ⟨hp, gs, dr, tks, os⟩
noncomputable def Zst1.c : (World) × (Heap) × (Addr) × (Addr) × (Addr) × (Addr) × (Value) × (ExcName → Option Value) × (Str → Option Value) × (Str → Option Value) × (Flow → Shared → Prop) × (Value → Shared → Prop) × (Heap) × (Array GenState) × (Drawn) × (Nat) × (OsState) × (Str → Option Value) × (Tok) × (Tok) × (List Value) × (List Int) × (Nat) × (Obj) × (Obj) × (Obj) × (Obj) :=
  @Classical.epsilon _ ⟨((aWorld 0 : World), (default : Heap), (default : Addr), (default : Addr), (default : Addr), (default : Addr), (default : Value), (fun _ => none : ExcName → Option Value), (fun _ => none : Str → Option Value), (fun _ => none : Str → Option Value), (fun _ _ => True : Flow → Shared → Prop), (fun _ _ => True : Value → Shared → Prop), (default : Heap), (#[] : Array GenState), ({} : Drawn), (default : Nat), ({} : OsState), (fun _ => none : Str → Option Value), (default : Tok), (default : Tok), (default : List Value), (default : List Int), (default : Nat), (default : Obj), (default : Obj), (default : Obj), (default : Obj))⟩ fun x => ¬ Zst1.G (x.1) (x.2.1) (x.2.2.1) (x.2.2.2.1) (x.2.2.2.2.1) (x.2.2.2.2.2.1) (x.2.2.2.2.2.2.1) (x.2.2.2.2.2.2.2.1) (x.2.2.2.2.2.2.2.2.1) (x.2.2.2.2.2.2.2.2.2.1) (x.2.2.2.2.2.2.2.2.2.2.1) (x.2.2.2.2.2.2.2.2.2.2.2.1) (x.2.2.2.2.2.2.2.2.2.2.2.2.1) (x.2.2.2.2.2.2.2.2.2.2.2.2.2.1) (x.2.2.2.2.2.2.2.2.2.2.2.2.2.2.1) (x.2.2.2.2.2.2.2.2.2.2.2.2.2.2.2.1) (x.2.2.2.2.2.2.2.2.2.2.2.2.2.2.2.2.1) (x.2.2.2.2.2.2.2.2.2.2.2.2.2.2.2.2.2.1) (x.2.2.2.2.2.2.2.2.2.2.2.2.2.2.2.2.2.2.1) (x.2.2.2.2.2.2.2.2.2.2.2.2.2.2.2.2.2.2.2.1) (x.2.2.2.2.2.2.2.2.2.2.2.2.2.2.2.2.2.2.2.2.1) (x.2.2.2.2.2.2.2.2.2.2.2.2.2.2.2.2.2.2.2.2.2.1) (x.2.2.2.2.2.2.2.2.2.2.2.2.2.2.2.2.2.2.2.2.2.2.1) (x.2.2.2.2.2.2.2.2.2.2.2.2.2.2.2.2.2.2.2.2.2.2.2.1) (x.2.2.2.2.2.2.2.2.2.2.2.2.2.2.2.2.2.2.2.2.2.2.2.2.1) (x.2.2.2.2.2.2.2.2.2.2.2.2.2.2.2.2.2.2.2.2.2.2.2.2.2.1) (x.2.2.2.2.2.2.2.2.2.2.2.2.2.2.2.2.2.2.2.2.2.2.2.2.2.2)
noncomputable def Zst1.V.w : World := Zst1.c.1
noncomputable def Zst1.V.h₀ : Heap := Zst1.c.2.1
noncomputable def Zst1.V.L : Addr := Zst1.c.2.2.1
noncomputable def Zst1.V.fa : Addr := Zst1.c.2.2.2.1
noncomputable def Zst1.V.pen : Addr := Zst1.c.2.2.2.2.1
noncomputable def Zst1.V.cl : Addr := Zst1.c.2.2.2.2.2.1
noncomputable def Zst1.V.ccd : Value := Zst1.c.2.2.2.2.2.2.1
noncomputable def Zst1.V.mean : ExcName → Option Value := Zst1.c.2.2.2.2.2.2.2.1
noncomputable def Zst1.V.mg : Str → Option Value := Zst1.c.2.2.2.2.2.2.2.2.1
noncomputable def Zst1.V.mb : Str → Option Value := Zst1.c.2.2.2.2.2.2.2.2.2.1
noncomputable def Zst1.V.Q : Flow → Shared → Prop := Zst1.c.2.2.2.2.2.2.2.2.2.2.1
noncomputable def Zst1.V.E : Value → Shared → Prop := Zst1.c.2.2.2.2.2.2.2.2.2.2.2.1
noncomputable def Zst1.V.hp : Heap := Zst1.c.2.2.2.2.2.2.2.2.2.2.2.2.1
noncomputable def Zst1.V.gs : Array GenState := Zst1.c.2.2.2.2.2.2.2.2.2.2.2.2.2.1
noncomputable def Zst1.V.dr : Drawn := Zst1.c.2.2.2.2.2.2.2.2.2.2.2.2.2.2.1
noncomputable def Zst1.V.tks : Nat := Zst1.c.2.2.2.2.2.2.2.2.2.2.2.2.2.2.2.1
noncomputable def Zst1.V.os : OsState := Zst1.c.2.2.2.2.2.2.2.2.2.2.2.2.2.2.2.2.1
noncomputable def Zst1.V.m : Str → Option Value := Zst1.c.2.2.2.2.2.2.2.2.2.2.2.2.2.2.2.2.2.1
noncomputable def Zst1.V.tk : Tok := Zst1.c.2.2.2.2.2.2.2.2.2.2.2.2.2.2.2.2.2.2.1
noncomputable def Zst1.V.tr : Tok := Zst1.c.2.2.2.2.2.2.2.2.2.2.2.2.2.2.2.2.2.2.2.1
noncomputable def Zst1.V.vs : List Value := Zst1.c.2.2.2.2.2.2.2.2.2.2.2.2.2.2.2.2.2.2.2.2.1
noncomputable def Zst1.V.ns : List Int := Zst1.c.2.2.2.2.2.2.2.2.2.2.2.2.2.2.2.2.2.2.2.2.2.1
noncomputable def Zst1.V.n : Nat := Zst1.c.2.2.2.2.2.2.2.2.2.2.2.2.2.2.2.2.2.2.2.2.2.2.1
noncomputable def Zst1.V.oS : Obj := Zst1.c.2.2.2.2.2.2.2.2.2.2.2.2.2.2.2.2.2.2.2.2.2.2.2.1
noncomputable def Zst1.V.oF : Obj := Zst1.c.2.2.2.2.2.2.2.2.2.2.2.2.2.2.2.2.2.2.2.2.2.2.2.2.1
noncomputable def Zst1.V.oT : Obj := Zst1.c.2.2.2.2.2.2.2.2.2.2.2.2.2.2.2.2.2.2.2.2.2.2.2.2.2.1
noncomputable def Zst1.V.oP : Obj := Zst1.c.2.2.2.2.2.2.2.2.2.2.2.2.2.2.2.2.2.2.2.2.2.2.2.2.2.2
section
open Zst1.V
set_option maxHeartbeats 8000000 in
theorem Zst1.main : Zst1.G Zst1.V.w Zst1.V.h₀ Zst1.V.L Zst1.V.fa Zst1.V.pen Zst1.V.cl Zst1.V.ccd Zst1.V.mean Zst1.V.mg Zst1.V.mb Zst1.V.Q Zst1.V.E Zst1.V.hp Zst1.V.gs Zst1.V.dr Zst1.V.tks Zst1.V.os Zst1.V.m Zst1.V.tk Zst1.V.tr Zst1.V.vs Zst1.V.ns Zst1.V.n Zst1.V.oS Zst1.V.oF Zst1.V.oT Zst1.V.oP := by
  unfold Zst1.G
  k_fill
  intro B X T F N hI hl l1 l2 l3 dP dT dF dS next
  try dsimp only at F N
  dsimp only [lawE, lawT, lawB, List.drop]
  try k_fold
  ((repeat' ( (fail_if_success (with_reducible show wpAny _ _ (call (Value.ref 158) _) _ _ _)); (fail_if_success (with_reducible show wpAny _ _ (call (Value.ref 151) _) _ _ _)); (fail_if_success (with_reducible show wpAny _ _ (execs (Stmt.For _ _ _ _ _ :: _) _) _ _ _)); (fail_if_success (with_reducible show wpAny _ _ (pyIter (Value.ref _)) _ _ _)); (first | (k_unfold; (try dsimp only)) | (k_end; wrow_close) | walk1 | (dsimp only; walk1) | (leave1; walk_say "STEP leave1"; try dsimp only) | fail "no step"))); all_goals (try k_fold))
  rename_i lA hA xA lB hB xB lC hC xC lD hD FD ND xD
  refine' does_use (pick_does w ((pen, W.listOf #[.ref cl, .int 0 tk, .int 0 tr] 0) :: (cl, W.listOf vs.toArray n) :: (lD, _) :: (lC, _) :: (lB, _) :: (lA, _) :: [(L + 1 + 1 + 1 + 1, oS), (L + 1 + 1 + 1, oF), (L + 1 + 1, oT), (L + 1, oP)]) _ pen lD [.ref lA, .ref lB, .ref lC] 0 (by simp) (by simp) ⟨cl, 0, tk, 0, tr, vs, ns, n, rfl, hI, hl, ?z1, ?z2, ?z3⟩ (.head _)) ?k1 ?k2 ?k3 ?k4 ?k5 ?k6 ?k7 ?k8 ?_
  case z1 => walk_at "MY ne"
  case z2 => walk_at "MY far"
  case z3 => walk_at "MY far"
  case k4 => exact news_sub ND (by walk_at "MY sub")
  case k1 => k_asm
  case k2 => k_asm
  case k3 => k_asm
  case k5 => k_asm
  case k6 => first | exact rfl | assumption
  case k7 => ktr_room
  case k8 => ktr_units
  rintro v9 news9 h9 tk9 ⟨hv, P9⟩ F9 N9
  obtain ⟨wa, rfl, hW⟩ := ways_of P9 hv
  obtain ⟨cl9, k9, tk8, r9, tr9, vs9, ns9, n9, rfl, hI9, hl9, hne9, hr1, hr2⟩ := P9
  have e1 : @Ne Nat (L + 1 + 1) cl9 := hr2 (L + 1 + 1, oT) (by walk_at "MY in")
  have e2 : @Ne Nat pen cl9 := hne9
  clear FD ND
  try k_fold
  ((repeat' ( (fail_if_success (with_reducible show wpAny _ _ (call (Value.ref 158) _) _ _ _)); (fail_if_success (with_reducible show wpAny _ _ (call (Value.ref 151) _) _ _ _)); (fail_if_success (with_reducible show wpAny _ _ (execs (Stmt.For _ _ _ _ _ :: _) _) _ _ _)); (fail_if_success (with_reducible show wpAny _ _ (pyIter (Value.ref _)) _ _ _)); (first | (k_unfold; (try dsimp only)) | (k_end; wrow_close) | walk1 | (dsimp only; walk1) | (leave1; walk_say "STEP leave1"; try dsimp only) | fail "no step"))); all_goals (try k_fold))
  rename_i hA9 tkk dT hT9 oTab FT NT lo hs fs hi fi xT
  refine' does_use (draw_does w ((pen, W.listOf #[.ref cl9, .int k9 tk8, .int r9 tr9] 0) :: (cl9, W.listOf vs9.toArray n9) :: (dT, oTab) :: _) ((dT, oTab) :: _) pen 4 _ (by decide) (by decide) ⟨cl9, k9, tk8, r9, tr9, vs9, ns9, n9, rfl, hI9, hl9, hne9, List.forall_mem_cons.mpr ⟨?z1, hr1⟩, List.forall_mem_cons.mpr ⟨?z2, hr2⟩⟩) ?k1 ?k2 ?k3 ?k4 ?k5 ?k6 ?k7 ?k8 ?_
  case z1 => walk_at "MY ne"
  case z2 => walk_at "MY ne"
  case k4 => exact news_sub NT (by walk_at "MY sub")
  case k1 => k_asm
  case k2 => k_asm
  case k3 => k_asm
  case k5 => k_asm
  case k6 => first | exact rfl | assumption
  case k7 => ktr_room
  case k8 => ktr_units
  rintro v9 news9 h9 tk9 ⟨d, td, rfl, hd0, hd1, P9⟩ F9 N9
  obtain ⟨cl7, k7, tk7, r7, tr7, vs7, ns7, n7, rfl, hI7, hl7, hne7, hq1, hq2⟩ := P9
  have e3 : @Ne Nat (L + 1 + 1) cl7 := hq2 (L + 1 + 1, oT) (by walk_at "MY in")
  have e4 : @Ne Nat pen cl7 := hne7
  clear FT NT
  try k_fold
  ((repeat' ( (fail_if_success (with_reducible show wpAny _ _ (call (Value.ref 158) _) _ _ _)); (fail_if_success (with_reducible show wpAny _ _ (call (Value.ref 151) _) _ _ _)); (fail_if_success (with_reducible show wpAny _ _ (execs (Stmt.For _ _ _ _ _ :: _) _) _ _ _)); (fail_if_success (with_reducible show wpAny _ _ (pyIter (Value.ref _)) _ _ _)); (first | (k_unfold; (try dsimp only)) | (k_end; wrow_close) | walk1 | (dsimp only; walk1) | (leave1; walk_say "STEP leave1"; try dsimp only) | fail "no step"))); all_goals (try k_fold))
  rename_i D1 hx1 xD1 hx2 hx3 oT2 dT2 hx4 F1 N1
  have f1 : @Ne Nat dT cl7 := hq2 _ (.head _)
  have f2 : @Ne Nat lD cl7 := hq2 _ (.tail _ (.head _))
  have f3 : @Ne Nat lC cl7 := hq2 _ (.tail _ (.tail _ (.head _)))
  have f4 : @Ne Nat lB cl7 := hq2 _ (.tail _ (.tail _ (.tail _ (.head _))))
  have f5 : @Ne Nat lA cl7 := hq2 _ (.tail _ (.tail _ (.tail _ (.tail _ (.head _)))))
  have f6 : @Ne Nat (L + 1 + 1 + 1 + 1) cl7 := hq2 _ (.tail _ (.tail _ (.tail _ (.tail _ (.tail _ (.head _))))))
  have f7 : @Ne Nat (L + 1 + 1 + 1) cl7 := hq2 _ (.tail _ (.tail _ (.tail _ (.tail _ (.tail _ (.tail _ (.head _)))))))
  have f8 : @Ne Nat (L + 1) cl7 := hq2 _ (.tail _ (.tail _ (.tail _ (.tail _ (.tail _ (.tail _ (.tail _ (.tail _ (.head _)))))))))
  refine next _ _ ⟨_, wa, dT, oTab, oT2, oF, oS, oP, [(lD, _), (lC, _), (lB, _), (lA, _)], _, d, td, fr_upd _ F1 ⟨rfl, rfl, trivial⟩, news_sub N1 ?sub, ⟨cl7, k7, tk7, r7, tr7, vs7, ns7, n7, rfl, hI7, hl7, hne7, ?f1, ?f2⟩, ⟨?far, ?offT, ?lt1, ?lt2, dP, dT2, ⟨_, dF⟩, ⟨_, dS⟩⟩, hi, lo, hW, hd0, hd1⟩
  case sub => walk_at "MY sub"
  case f1 => walk_at "MY far"
  case f2 => walk_at "MY far"
  case far => walk_at "MY lfar"
  case offT => walk_at "MY far"
  case lt1 => omega
  case lt2 => omega
end
theorem st1 : ∀ (w : World) (h₀ : Heap) (L fa pen cl : Addr) (ccd : Value) (mean : ExcName → Option Value) (mg mb : Str → Option Value) (Q : Flow → Shared → Prop) (E : Value → Shared → Prop) (s : Shared) (m : Str → Option Value) (tk tr : Tok) (vs : List Value) (ns : List Int) (n : Nat) (oS oF oT oP : Obj)
    (B : Below callerA h₀ [] h₀) (X : (hd.heap_1 w.params).In h₀) (T : Top hview (looseW hview [Str.ofString "PaperError"]) mean mg mb h₀)
    (F : Fr h₀ L s.heap m) (N : News h₀ L s.heap [(pen, W.listOf #[.ref cl, .int 0 tk, .int 0 tr] 0), (cl, W.listOf vs.toArray n), (L + 1 + 1 + 1 + 1, oS), (L + 1 + 1 + 1, oF), (L + 1 + 1, oT), (L + 1, oP)])
    (hI : IntsAre vs ns) (hl : vs.length ≤ 100) (l1 : @LT.lt Nat _ (L + 1 + 1 + 1 + 1) pen) (l2 : @LT.lt Nat _ cl pen) (l3 : @Ne Nat cl (L + 1 + 1 + 1 + 1) ∧ @Ne Nat cl (L + 1 + 1 + 1) ∧ @Ne Nat cl (L + 1 + 1) ∧ @Ne Nat cl (L + 1)) (dP : oP.data = .cell (some (.ref pen))) (dT : oT.data = .cell none) (dF : oF.data = .cell none) (dS : oS.data = .cell none)
    (next : ∀ h tk, Inv3 w h₀ L pen h → wpAny (model PySem.Challenge.rw_og0136_01.row.prog w) (callerA.deeper (lawE L fa ccd)) (lawT 3 L fa ccd) Q E { s with heap := h, toks := tk }),
    wpAny (model PySem.Challenge.rw_og0136_01.row.prog w) (callerA.deeper (lawE L fa ccd)) (lawT 1 L fa ccd) Q E s := by
  intro w h₀ L fa pen cl ccd mean mg mb Q E s m tk tr vs ns n oS oF oT oP B X T F N hI hl l1 l2 l3 dP dT dF dS next
  obtain ⟨hp, gs, dr, tks, os⟩ := s
  exact (Classical.byContradiction fun hn => @Classical.epsilon_spec _ (fun x : (World) × (Heap) × (Addr) × (Addr) × (Addr) × (Addr) × (Value) × (ExcName → Option Value) × (Str → Option Value) × (Str → Option Value) × (Flow → Shared → Prop) × (Value → Shared → Prop) × (Heap) × (Array GenState) × (Drawn) × (Nat) × (OsState) × (Str → Option Value) × (Tok) × (Tok) × (List Value) × (List Int) × (Nat) × (Obj) × (Obj) × (Obj) × (Obj) => ¬ Zst1.G (x.1) (x.2.1) (x.2.2.1) (x.2.2.2.1) (x.2.2.2.2.1) (x.2.2.2.2.2.1) (x.2.2.2.2.2.2.1) (x.2.2.2.2.2.2.2.1) (x.2.2.2.2.2.2.2.2.1) (x.2.2.2.2.2.2.2.2.2.1) (x.2.2.2.2.2.2.2.2.2.2.1) (x.2.2.2.2.2.2.2.2.2.2.2.1) (x.2.2.2.2.2.2.2.2.2.2.2.2.1) (x.2.2.2.2.2.2.2.2.2.2.2.2.2.1) (x.2.2.2.2.2.2.2.2.2.2.2.2.2.2.1) (x.2.2.2.2.2.2.2.2.2.2.2.2.2.2.2.1) (x.2.2.2.2.2.2.2.2.2.2.2.2.2.2.2.2.1) (x.2.2.2.2.2.2.2.2.2.2.2.2.2.2.2.2.2.1) (x.2.2.2.2.2.2.2.2.2.2.2.2.2.2.2.2.2.2.1) (x.2.2.2.2.2.2.2.2.2.2.2.2.2.2.2.2.2.2.2.1) (x.2.2.2.2.2.2.2.2.2.2.2.2.2.2.2.2.2.2.2.2.1) (x.2.2.2.2.2.2.2.2.2.2.2.2.2.2.2.2.2.2.2.2.2.1) (x.2.2.2.2.2.2.2.2.2.2.2.2.2.2.2.2.2.2.2.2.2.2.1) (x.2.2.2.2.2.2.2.2.2.2.2.2.2.2.2.2.2.2.2.2.2.2.2.1) (x.2.2.2.2.2.2.2.2.2.2.2.2.2.2.2.2.2.2.2.2.2.2.2.2.1) (x.2.2.2.2.2.2.2.2.2.2.2.2.2.2.2.2.2.2.2.2.2.2.2.2.2.1) (x.2.2.2.2.2.2.2.2.2.2.2.2.2.2.2.2.2.2.2.2.2.2.2.2.2.2)) ⟨(w, h₀, L, fa, pen, cl, ccd, mean, mg, mb, Q, E, hp, gs, dr, tks, os, m, tk, tr, vs, ns, n, oS, oF, oT, oP), hn⟩ Zst1.main) B X T F N hI hl l1 l2 l3 dP dT dF dS next
end Mine
end
section
theorem Mine.offL6 : True := by w_top off; trivial
namespace Mine
/-- behind the mark of the ways -/
inductive Inv8 (w : World) (h₀ : Heap) (L pen : Addr) (h : Heap) : Prop
  | mk (m : Str → Option Value) (en lw : Addr) (b : Bool) (t1 t2 t3 : Tok) (tb : Addr) (oTab oT oF oS oP : Obj) (rest news : Led) (kvs : List (Int × Value)) (es : List Ent) (oE : Obj) (kvsE : List (Int × Value)) (F : Fr h₀ L h (upd [(Str.ofString "entries", some (.ref en)), (Str.ofString "least_widths", some (.ref lw)), (Str.ofString "is_mixed", some (.bool b))] m)) (N : News h₀ L h news) (K : Core w L pen news tb oTab oT oF oS oP rest kvs es) (hE : EntTab w rest en oE kvsE es)
    (hw : (lw, tup3 (mixN es) (topOne es : Nat) (topTwo es : Nat) t1 t2 t3) ∈ rest) (hm : mixN es = (if b then 1 else 0)) : Inv8 w h₀ L pen h
noncomputable def mixed (es : List Ent) : List Int := (es.filter fun e => e.way != Str.ofString "used").map (·.key)
theorem mixed_snoc {es : List Ent} {i : Nat} {e : Ent} (he : es[i]? = some e) : mixed (es.take (i + 1)) = if (e.way != Str.ofString "used") = true then mixed (es.take i) ++ [e.key] else mixed (es.take i) := by
  unfold mixed
  rw [List.take_add_one, he]
  simp only [Option.toList, List.filter_append, List.map_append]
  by_cases h : (e.way != Str.ofString "used") = true
  · simp [h]
  · simp [h]
theorem mixed_mix (es : List Ent) : mixN es = if (!decide (mixed es = [])) = true then 1 else 0 := by
  have e : (es.any fun e => e.way != Str.ofString "used") = (!decide (mixed es = [])) := by
    induction es with
    | nil => rfl
    | cons a r ih =>
      rw [List.any_cons, ih]
      unfold mixed
      by_cases h : (a.way != Str.ofString "used") = true
      · simp [h]
      · simp [h]
  unfold mixN
  rw [e]
set_option maxHeartbeats 8000000 in
theorem st6 : ∀ (w : World) (h₀ : Heap) (L fa pen : Addr) (ccd : Value) (mean : ExcName → Option Value) (mg mb : Str → Option Value) (Q : Flow → Shared → Prop) (E : Value → Shared → Prop) (s : Shared)
    (B : Below callerA h₀ [] h₀) (X : (hd.heap_1 w.params).In h₀) (T : Top hview (looseW hview [Str.ofString "PaperError"]) mean mg mb h₀)
    (I5 : Inv7 w h₀ L pen s.heap) (next : ∀ h tk, Inv8 w h₀ L pen h → wpAny (model PySem.Challenge.rw_og0136_01.row.prog w) (callerA.deeper (lawE L fa ccd)) (lawT 8 L fa ccd) Q E { s with heap := h, toks := tk }),
    wpAny (model PySem.Challenge.rw_og0136_01.row.prog w) (callerA.deeper (lawE L fa ccd)) (lawT 7 L fa ccd) Q E s := by
  k_fill
  intro w h₀ L fa pen ccd mean mg mb Q E s B X T I5 next
  obtain ⟨m, en, lw, t1, t2, t3, tb, oTab, oT, oF, oS, oP, rest, news, kvs, es, oE, kvsE, F9, N9, K, hE, hlw⟩ := I5
  obtain ⟨hp, gs, dr, tks, os⟩ := s
  have dT := K.cells.cT
  have hmT := K.inTab
  have hmC := K.inT
  have lo := K.lo
  have hdT := K.dict
  have hkl : kvs.length = es.length := K.tups.length
  have hes := K.six
  dsimp only at F9 N9
  dsimp only [lawE, lawT, lawB, List.drop]
  try k_fold
  ((repeat' ( (fail_if_success (with_reducible show wpAny _ _ (execs (Stmt.Assign [PySem.Expr.Name (Str.ofString "due") _] _ _ :: _) _) _ _ _)); (fail_if_success (with_reducible show wpAny _ _ (eval (PySem.Expr.ListComp _ _ _ _) _) _ _ _)); (fail_if_success (with_reducible show wpAny _ _ (subscriptTail _ _ (Value.ref _) (Value.int 0 _)) _ _ _)); (first | (k_unfold; (try dsimp only)) | (k_end; wrow_close) | walk1 | (dsimp only; walk1) | (leave1; walk_say "STEP leave1"; try dsimp only) | fail "no step"))); all_goals (try k_fold))
  refine comp_dictT (knd := PySem.intKind prg w) (h₀ := h₀) (L := L) (m := upd [(Str.ofString "entries", some (.ref en)), (Str.ofString "least_widths", some (.ref lw))] m) (by with_unfolding_all rfl) (by decide) rfl (by decide) rfl rfl ?_
  ((repeat' ( (fail_if_success (with_reducible show wpAny _ _ (execs (Stmt.Assign [PySem.Expr.Name (Str.ofString "due") _] _ _ :: _) _) _ _ _)); (fail_if_success (with_reducible show wpAny _ _ (eval (PySem.Expr.ListComp _ _ _ _) _) _ _ _)); (fail_if_success (with_reducible show wpAny _ _ (subscriptTail _ _ (Value.ref _) (Value.int 0 _)) _ _ _)); (first | (k_unfold; (try dsimp only)) | (k_end; wrow_close) | walk1 | (dsimp only; walk1) | (leave1; walk_say "STEP leave1"; try dsimp only) | fail "no step"))); all_goals (try k_fold))
  refine ⟨tb, oTab, kvs, _, rfl, F9, N9, hmT, hdT, lo, by rw [sizeLine_eq]; omega, fun g => rest_of_invT (fun i ys nw => nw = news ∧ IntsAre ys (mixed (es.take i))) kvs.length ?hS ?hF ?turn kvs.length 0 [] _ (Nat.zero_add _) ⟨rfl, .nil⟩⟩
  case hS => rintro i ys nw ⟨rfl, -⟩; exact hmT
  case turn =>
    rintro i v ys nw I oI Cc oC D m₂ h tk E' hi ⟨key, y, hky, hv⟩ ⟨rfl, hys⟩ hoC hx F₁ N₁ oI1 oC1 oD1 n1 n2 n3
    obtain ⟨e, x, he, rfl, rfl, a1, a2, a3, hx3⟩ := K.tups.get hky
    obtain ⟨tv, rfl⟩ := Value.isInt_shape hv
    have hat := valueAt_of_get (keysNodup_of_isDictOf hdT) hky
    have hx4 := K.inRest _ hx3
    have hsn := mixed_snoc he
    unfold tupD at hx4
    clear F9 N9
    try k_fold
    clear hx3
    ((repeat' ( (fail_if_success (with_reducible show wpAny _ _ (execs (Stmt.Assign [PySem.Expr.Name (Str.ofString "due") _] _ _ :: _) _) _ _ _)); (fail_if_success (with_reducible show wpAny _ _ (eval (PySem.Expr.ListComp _ _ _ _) _) _ _ _)); (fail_if_success (with_reducible show wpAny _ _ (subscriptTail _ _ (Value.ref _) (Value.int 0 _)) _ _ _)); (first | (k_unfold; (try dsimp only)) | (k_end; wrow_close) | walk1 | (dsimp only; walk1) | (leave1; walk_say "STEP leave1"; try dsimp only) | fail "no step"))); all_goals (try k_fold))
    refine item_tup (by k_asm) (n := 0) (its := [.str e.way a1, .int e.one a2, .int e.two a3]) (by walk_at "MY in") (by decide) (by decide) rfl ?_ (by with_unfolding_all rfl)
    try k_fold
    ((repeat' ( (fail_if_success (with_reducible show wpAny _ _ (execs (Stmt.Assign [PySem.Expr.Name (Str.ofString "due") _] _ _ :: _) _) _ _ _)); (fail_if_success (with_reducible show wpAny _ _ (eval (PySem.Expr.ListComp _ _ _ _) _) _ _ _)); (fail_if_success (with_reducible show wpAny _ _ (subscriptTail _ _ (Value.ref _) (Value.int 0 _)) _ _ _)); (first | (k_unfold; (try dsimp only)) | (k_end; wrow_close) | walk1 | (dsimp only; walk1) | (leave1; walk_say "STEP leave1"; try dsimp only) | fail "no step"))); all_goals (try k_fold))
    · rw [if_pos (by assumption)] at hsn
      exact ⟨_, _, _, rfl, F₁, N₁, oI1, oC1, oD1, rfl, by rw [hsn]; exact ints_snoc hys _ _⟩
    · (rename (_ != _) = false => hb9)
      rw [hb9, if_neg Bool.false_ne_true] at hsn
      exact ⟨_, _, _, rfl, F₁, N₁, oI1, oC1, oD1, rfl, by rw [hsn]; exact hys⟩
  case hF =>
    rintro ys nw ⟨rfl, hys⟩
    rw [hkl, List.take_length] at hys
    unfold LCg.FinE
    intro D h tk F₁ N₁ o1
    simp only [upd] at F₁
    clear F9 N9
    try k_fold
    ((repeat' ( (fail_if_success (with_reducible show wpAny _ _ (execs (Stmt.Assign [PySem.Expr.Name (Str.ofString "due") _] _ _ :: _) _) _ _ _)); (fail_if_success (with_reducible show wpAny _ _ (eval (PySem.Expr.ListComp _ _ _ _) _) _ _ _)); (fail_if_success (with_reducible show wpAny _ _ (subscriptTail _ _ (Value.ref _) (Value.int 0 _)) _ _ _)); (first | (k_unfold; (try dsimp only)) | (k_end; wrow_close) | walk1 | (dsimp only; walk1) | (leave1; walk_say "STEP leave1"; try dsimp only) | fail "no step"))); all_goals (try k_fold))
    (rename Fr _ _ _ _ => lF')
    (rename News _ _ _ _ => lN')
    exact next _ _ ⟨_, en, lw, _, t1, t2, t3, tb, oTab, oT, oF, oS, oP, rest, nw, kvs, es, oE, kvsE, fr_upd _ lF' ⟨rfl, rfl, rfl, trivial⟩, news_sub lN' (fun p hp => .tail _ (.tail _ hp)), K, hE, hlw, mixed_mix es⟩
end Mine
end
section
theorem Mine.offL7 : True := by w_top off; trivial
namespace Mine
/-- behind the test of the least widths -/
inductive Inv10 (w : World) (h₀ : Heap) (L pen : Addr) (h : Heap) : Prop
  | mk (m : Str → Option Value) (en du : Addr) (t1 t2 t3 : Tok) (tb : Addr) (oTab oT oF oS oP : Obj) (rest news : Led) (kvs : List (Int × Value)) (es : List Ent) (oE : Obj) (kvsE : List (Int × Value)) (F : Fr h₀ L h (upd [(Str.ofString "entries", some (.ref en)), (Str.ofString "due", some (.ref du))] m)) (N : News h₀ L h news) (K : Core w L pen news tb oTab oT oF oS oP rest kvs es) (hE : EntTab w rest en oE kvsE es)
    (hw : (du, tup3 (mixN es) (topOne es : Nat) (topTwo es : Nat) t1 t2 t3) ∈ rest) : Inv10 w h₀ L pen h
theorem fold_top (f : Ent → Int) : ∀ (es : List Ent) (b : Nat), b ≤ es.foldl (fun m e => max m (wid (f e).toNat)) b ∧ (∀ e ∈ es, wid (f e).toNat ≤ es.foldl (fun m e => max m (wid (f e).toNat)) b) ∧ (es.foldl (fun m e => max m (wid (f e).toNat)) b = b ∨ ∃ e ∈ es, es.foldl (fun m e => max m (wid (f e).toNat)) b = wid (f e).toNat)
  | [], b => ⟨Nat.le_refl _, nofun, .inl rfl⟩
  | a :: r, b => by
    obtain ⟨h1, h2, h3⟩ := fold_top f r (max b (wid (f a).toNat))
    simp only [List.foldl_cons]
    refine ⟨by omega, List.forall_mem_cons.mpr ⟨by omega, h2⟩, ?_⟩
    rcases h3 with h3 | ⟨e, he, h3⟩
    · rcases Nat.le_total b (wid (f a).toNat) with h | h
      · exact .inr ⟨a, .head _, by omega⟩
      · exact .inl (by omega)
    · exact .inr ⟨e, .tail _ he, h3⟩
theorem top_is {f : Ent → Int} {b : Nat} {es : List Ent} {M : Int} (h1 : M = (b : Int) ∨ ∃ n ∈ es.map f, M = ((wid n.toNat : Nat) : Int)) (h2 : (b : Int) ≤ M) (h3 : ∀ n ∈ es.map f, ((wid n.toNat : Nat) : Int) ≤ M) :
    M = ((es.foldl (fun m e => max m (wid (f e).toNat)) b : Nat) : Int) := by
  obtain ⟨g1, g2, g3⟩ := fold_top f es b
  have a1 : ((es.foldl (fun m e => max m (wid (f e).toNat)) b : Nat) : Int) ≤ M := by
    rcases g3 with g | ⟨e, he, g⟩
    · omega
    · have := h3 (f e) (List.mem_map.mpr ⟨e, he, rfl⟩)
      omega
  have a2 : M ≤ ((es.foldl (fun m e => max m (wid (f e).toNat)) b : Nat) : Int) := by
    rcases h1 with h | ⟨n, hn, h⟩
    · omega
    · obtain ⟨e, he, rfl⟩ := List.mem_map.mp hn
      have := g2 e he
      omega
  omega
theorem led_tup3 {h₀ h : Heap} {L D : Addr} {a b c : Int} {t1 t2 t3 : Tok} {news : Led} (N : News h₀ L h ((D, tup3 a b c t1 t2 t3) :: news)) : ∃ D' u1 u2 u3, D' = D ∧ News h₀ L h ((D', tup3 a b c u1 u2 u3) :: news) := ⟨D, t1, t2, t3, rfl, N⟩
noncomputable def Zst7.G (w : World) (h₀ : Heap) (L : Addr) (fa : Addr) (pen : Addr) (ccd : Value) (mean : ExcName → Option Value) (mg : Str → Option Value) (mb : Str → Option Value) (Q : Flow → Shared → Prop) (E : Value → Shared → Prop) (hp : Heap) (gs : Array GenState) (dr : Drawn) (tks : Nat) (os : OsState) (m : Str → Option Value) (en : Addr) (lw : Addr) (b : Bool) (t1 : Tok) (t2 : Tok) (t3 : Tok) (tb : Addr) (oTab : Obj) (oT : Obj) (oF : Obj) (oS : Obj) (oP : Obj) (rest : Led) (news : Led) (kvs : List (Int × Value)) (es : List Ent) (oE : Obj) (kvsE : List (Int × Value)) : Prop :=
  ∀ (B : Below callerA h₀ [] h₀), ∀ (X : (hd.heap_1 w.params).In h₀), ∀ (T : Top hview (looseW hview [Str.ofString "PaperError"]) mean mg mb h₀), ∀ (F9 : Fr h₀ L hp (upd [(Str.ofString "entries", some (.ref en)), (Str.ofString "least_widths", some (.ref lw)), (Str.ofString "is_mixed", some (.bool b))] m)), ∀ (N9 : News h₀ L hp news), ∀ (K : Core w L pen news tb oTab oT oF oS oP rest kvs es), ∀ (hE : EntTab w rest en oE kvsE es), ∀ (hlw : (lw, tup3 (mixN es) (topOne es : Nat) (topTwo es : Nat) t1 t2 t3) ∈ rest), ∀ (hmix : mixN es = (if b then 1 else 0)), ∀ (next : ∀ h tk, Inv10 w h₀ L pen h → wpAny (model PySem.Challenge.rw_og0136_01.row.prog w) (callerA.deeper (lawE L fa ccd)) (lawT 10 L fa ccd) Q E (⟨h, gs, dr, tk, os⟩ : Shared)), wpAny (model PySem.Challenge.rw_og0136_01.row.prog w) (callerA.deeper (lawE L fa ccd)) (lawT 8 L fa ccd) Q E ⟨hp, gs, dr, tks, os⟩
noncomputable def Zst7.c : (World) × (Heap) × (Addr) × (Addr) × (Addr) × (Value) × (ExcName → Option Value) × (Str → Option Value) × (Str → Option Value) × (Flow → Shared → Prop) × (Value → Shared → Prop) × (Heap) × (Array GenState) × (Drawn) × (Nat) × (OsState) × (Str → Option Value) × (Addr) × (Addr) × (Bool) × (Tok) × (Tok) × (Tok) × (Addr) × (Obj) × (Obj) × (Obj) × (Obj) × (Obj) × (Led) × (Led) × (List (Int × Value)) × (List Ent) × (Obj) × (List (Int × Value)) :=
  @Classical.epsilon _ ⟨((aWorld 0 : World), (default : Heap), (default : Addr), (default : Addr), (default : Addr), (default : Value), (fun _ => none : ExcName → Option Value), (fun _ => none : Str → Option Value), (fun _ => none : Str → Option Value), (fun _ _ => True : Flow → Shared → Prop), (fun _ _ => True : Value → Shared → Prop), (default : Heap), (#[] : Array GenState), ({} : Drawn), (default : Nat), ({} : OsState), (fun _ => none : Str → Option Value), (default : Addr), (default : Addr), (default : Bool), (default : Tok), (default : Tok), (default : Tok), (default : Addr), (default : Obj), (default : Obj), (default : Obj), (default : Obj), (default : Obj), (default : Led), (default : Led), (default : List (Int × Value)), (default : List Ent), (default : Obj), (default : List (Int × Value)))⟩ fun x => ¬ Zst7.G (x.1) (x.2.1) (x.2.2.1) (x.2.2.2.1) (x.2.2.2.2.1) (x.2.2.2.2.2.1) (x.2.2.2.2.2.2.1) (x.2.2.2.2.2.2.2.1) (x.2.2.2.2.2.2.2.2.1) (x.2.2.2.2.2.2.2.2.2.1) (x.2.2.2.2.2.2.2.2.2.2.1) (x.2.2.2.2.2.2.2.2.2.2.2.1) (x.2.2.2.2.2.2.2.2.2.2.2.2.1) (x.2.2.2.2.2.2.2.2.2.2.2.2.2.1) (x.2.2.2.2.2.2.2.2.2.2.2.2.2.2.1) (x.2.2.2.2.2.2.2.2.2.2.2.2.2.2.2.1) (x.2.2.2.2.2.2.2.2.2.2.2.2.2.2.2.2.1) (x.2.2.2.2.2.2.2.2.2.2.2.2.2.2.2.2.2.1) (x.2.2.2.2.2.2.2.2.2.2.2.2.2.2.2.2.2.2.1) (x.2.2.2.2.2.2.2.2.2.2.2.2.2.2.2.2.2.2.2.1) (x.2.2.2.2.2.2.2.2.2.2.2.2.2.2.2.2.2.2.2.2.1) (x.2.2.2.2.2.2.2.2.2.2.2.2.2.2.2.2.2.2.2.2.2.1) (x.2.2.2.2.2.2.2.2.2.2.2.2.2.2.2.2.2.2.2.2.2.2.1) (x.2.2.2.2.2.2.2.2.2.2.2.2.2.2.2.2.2.2.2.2.2.2.2.1) (x.2.2.2.2.2.2.2.2.2.2.2.2.2.2.2.2.2.2.2.2.2.2.2.2.1) (x.2.2.2.2.2.2.2.2.2.2.2.2.2.2.2.2.2.2.2.2.2.2.2.2.2.1) (x.2.2.2.2.2.2.2.2.2.2.2.2.2.2.2.2.2.2.2.2.2.2.2.2.2.2.1) (x.2.2.2.2.2.2.2.2.2.2.2.2.2.2.2.2.2.2.2.2.2.2.2.2.2.2.2.1) (x.2.2.2.2.2.2.2.2.2.2.2.2.2.2.2.2.2.2.2.2.2.2.2.2.2.2.2.2.1) (x.2.2.2.2.2.2.2.2.2.2.2.2.2.2.2.2.2.2.2.2.2.2.2.2.2.2.2.2.2.1) (x.2.2.2.2.2.2.2.2.2.2.2.2.2.2.2.2.2.2.2.2.2.2.2.2.2.2.2.2.2.2.1) (x.2.2.2.2.2.2.2.2.2.2.2.2.2.2.2.2.2.2.2.2.2.2.2.2.2.2.2.2.2.2.2.1) (x.2.2.2.2.2.2.2.2.2.2.2.2.2.2.2.2.2.2.2.2.2.2.2.2.2.2.2.2.2.2.2.2.1) (x.2.2.2.2.2.2.2.2.2.2.2.2.2.2.2.2.2.2.2.2.2.2.2.2.2.2.2.2.2.2.2.2.2.1) (x.2.2.2.2.2.2.2.2.2.2.2.2.2.2.2.2.2.2.2.2.2.2.2.2.2.2.2.2.2.2.2.2.2.2)
noncomputable def Zst7.V.w : World := Zst7.c.1
noncomputable def Zst7.V.h₀ : Heap := Zst7.c.2.1
noncomputable def Zst7.V.L : Addr := Zst7.c.2.2.1
noncomputable def Zst7.V.fa : Addr := Zst7.c.2.2.2.1
noncomputable def Zst7.V.pen : Addr := Zst7.c.2.2.2.2.1
noncomputable def Zst7.V.ccd : Value := Zst7.c.2.2.2.2.2.1
noncomputable def Zst7.V.mean : ExcName → Option Value := Zst7.c.2.2.2.2.2.2.1
noncomputable def Zst7.V.mg : Str → Option Value := Zst7.c.2.2.2.2.2.2.2.1
noncomputable def Zst7.V.mb : Str → Option Value := Zst7.c.2.2.2.2.2.2.2.2.1
noncomputable def Zst7.V.Q : Flow → Shared → Prop := Zst7.c.2.2.2.2.2.2.2.2.2.1
noncomputable def Zst7.V.E : Value → Shared → Prop := Zst7.c.2.2.2.2.2.2.2.2.2.2.1
noncomputable def Zst7.V.hp : Heap := Zst7.c.2.2.2.2.2.2.2.2.2.2.2.1
noncomputable def Zst7.V.gs : Array GenState := Zst7.c.2.2.2.2.2.2.2.2.2.2.2.2.1
noncomputable def Zst7.V.dr : Drawn := Zst7.c.2.2.2.2.2.2.2.2.2.2.2.2.2.1
noncomputable def Zst7.V.tks : Nat := Zst7.c.2.2.2.2.2.2.2.2.2.2.2.2.2.2.1
noncomputable def Zst7.V.os : OsState := Zst7.c.2.2.2.2.2.2.2.2.2.2.2.2.2.2.2.1
noncomputable def Zst7.V.m : Str → Option Value := Zst7.c.2.2.2.2.2.2.2.2.2.2.2.2.2.2.2.2.1
noncomputable def Zst7.V.en : Addr := Zst7.c.2.2.2.2.2.2.2.2.2.2.2.2.2.2.2.2.2.1
noncomputable def Zst7.V.lw : Addr := Zst7.c.2.2.2.2.2.2.2.2.2.2.2.2.2.2.2.2.2.2.1
noncomputable def Zst7.V.b : Bool := Zst7.c.2.2.2.2.2.2.2.2.2.2.2.2.2.2.2.2.2.2.2.1
noncomputable def Zst7.V.t1 : Tok := Zst7.c.2.2.2.2.2.2.2.2.2.2.2.2.2.2.2.2.2.2.2.2.1
noncomputable def Zst7.V.t2 : Tok := Zst7.c.2.2.2.2.2.2.2.2.2.2.2.2.2.2.2.2.2.2.2.2.2.1
noncomputable def Zst7.V.t3 : Tok := Zst7.c.2.2.2.2.2.2.2.2.2.2.2.2.2.2.2.2.2.2.2.2.2.2.1
noncomputable def Zst7.V.tb : Addr := Zst7.c.2.2.2.2.2.2.2.2.2.2.2.2.2.2.2.2.2.2.2.2.2.2.2.1
noncomputable def Zst7.V.oTab : Obj := Zst7.c.2.2.2.2.2.2.2.2.2.2.2.2.2.2.2.2.2.2.2.2.2.2.2.2.1
noncomputable def Zst7.V.oT : Obj := Zst7.c.2.2.2.2.2.2.2.2.2.2.2.2.2.2.2.2.2.2.2.2.2.2.2.2.2.1
noncomputable def Zst7.V.oF : Obj := Zst7.c.2.2.2.2.2.2.2.2.2.2.2.2.2.2.2.2.2.2.2.2.2.2.2.2.2.2.1
noncomputable def Zst7.V.oS : Obj := Zst7.c.2.2.2.2.2.2.2.2.2.2.2.2.2.2.2.2.2.2.2.2.2.2.2.2.2.2.2.1
noncomputable def Zst7.V.oP : Obj := Zst7.c.2.2.2.2.2.2.2.2.2.2.2.2.2.2.2.2.2.2.2.2.2.2.2.2.2.2.2.2.1
noncomputable def Zst7.V.rest : Led := Zst7.c.2.2.2.2.2.2.2.2.2.2.2.2.2.2.2.2.2.2.2.2.2.2.2.2.2.2.2.2.2.1
noncomputable def Zst7.V.news : Led := Zst7.c.2.2.2.2.2.2.2.2.2.2.2.2.2.2.2.2.2.2.2.2.2.2.2.2.2.2.2.2.2.2.1
noncomputable def Zst7.V.kvs : List (Int × Value) := Zst7.c.2.2.2.2.2.2.2.2.2.2.2.2.2.2.2.2.2.2.2.2.2.2.2.2.2.2.2.2.2.2.2.1
noncomputable def Zst7.V.es : List Ent := Zst7.c.2.2.2.2.2.2.2.2.2.2.2.2.2.2.2.2.2.2.2.2.2.2.2.2.2.2.2.2.2.2.2.2.1
noncomputable def Zst7.V.oE : Obj := Zst7.c.2.2.2.2.2.2.2.2.2.2.2.2.2.2.2.2.2.2.2.2.2.2.2.2.2.2.2.2.2.2.2.2.2.1
noncomputable def Zst7.V.kvsE : List (Int × Value) := Zst7.c.2.2.2.2.2.2.2.2.2.2.2.2.2.2.2.2.2.2.2.2.2.2.2.2.2.2.2.2.2.2.2.2.2.2
section
open Zst7.V
set_option maxHeartbeats 8000000 in
theorem Zst7.main : Zst7.G Zst7.V.w Zst7.V.h₀ Zst7.V.L Zst7.V.fa Zst7.V.pen Zst7.V.ccd Zst7.V.mean Zst7.V.mg Zst7.V.mb Zst7.V.Q Zst7.V.E Zst7.V.hp Zst7.V.gs Zst7.V.dr Zst7.V.tks Zst7.V.os Zst7.V.m Zst7.V.en Zst7.V.lw Zst7.V.b Zst7.V.t1 Zst7.V.t2 Zst7.V.t3 Zst7.V.tb Zst7.V.oTab Zst7.V.oT Zst7.V.oF Zst7.V.oS Zst7.V.oP Zst7.V.rest Zst7.V.news Zst7.V.kvs Zst7.V.es Zst7.V.oE Zst7.V.kvsE := by
  unfold Zst7.G
  k_fill
  intro B X T F9 N9 K hE hlw hmix next
  have dT := K.cells.cT
  have hmT := K.inTab
  have hmC := K.inT
  have lo := K.lo
  have hdT := K.dict
  have hkl : kvs.length = es.length := K.tups.length
  have hes := K.six
  try dsimp only at F9 N9
  simp only [upd] at F9
  dsimp only [lawE, lawT, lawB, List.drop]
  try k_fold
  ((repeat' ( (fail_if_success (with_reducible show wpAny _ _ (execs (Stmt.Assign [PySem.Expr.Name (Str.ofString "runs") _] _ _ :: _) _) _ _ _)); (fail_if_success (with_reducible show wpAny _ _ (call (Value.ref 170) _) _ _ _)); (fail_if_success (with_reducible show wpAny _ _ (eval (PySem.Expr.ListComp _ _ _ _) _) _ _ _)); (fail_if_success (with_reducible show wpAny _ _ (subscriptTail _ _ (Value.ref _) (Value.int 1 _)) _ _ _)); (fail_if_success (with_reducible show wpAny _ _ (subscriptTail _ _ (Value.ref _) (Value.int 2 _)) _ _ _)); (first | (k_unfold; (try dsimp only)) | (k_end; wrow_close) | walk1 | (dsimp only; walk1) | (leave1; walk_say "STEP leave1"; try dsimp only) | fail "no step"))); all_goals (try k_fold))
  refine comp_dict (knd := PySem.intKind prg w) (h₀ := h₀) (L := L) (m := (fun x => if x = Str.ofString "entries" then some (Value.ref en) else if x = Str.ofString "least_widths" then some (Value.ref lw) else if x = Str.ofString "is_mixed" then some (Value.bool b) else m x)) (by with_unfolding_all rfl) (by decide) rfl (by decide) rfl rfl ?_
  ((repeat' ( (fail_if_success (with_reducible show wpAny _ _ (execs (Stmt.Assign [PySem.Expr.Name (Str.ofString "runs") _] _ _ :: _) _) _ _ _)); (fail_if_success (with_reducible show wpAny _ _ (call (Value.ref 170) _) _ _ _)); (fail_if_success (with_reducible show wpAny _ _ (eval (PySem.Expr.ListComp _ _ _ _) _) _ _ _)); (fail_if_success (with_reducible show wpAny _ _ (subscriptTail _ _ (Value.ref _) (Value.int 1 _)) _ _ _)); (fail_if_success (with_reducible show wpAny _ _ (subscriptTail _ _ (Value.ref _) (Value.int 2 _)) _ _ _)); (first | (k_unfold; (try dsimp only)) | (k_end; wrow_close) | walk1 | (dsimp only; walk1) | (leave1; walk_say "STEP leave1"; try dsimp only) | fail "no step"))); all_goals (try k_fold))
  refine ⟨tb, oTab, kvs, news, rfl, F9, N9, by walk_at "MY in", hdT, lo, by rw [sizeLine_eq]; omega, fun g => rest_of_inv (fun i ys nw' => news = nw' ∧ IntsAre ys ((es.map (·.one)).take i)) kvs.length ?hS ?hF ?turn kvs.length 0 [] _ (Nat.zero_add _) ⟨rfl, .nil⟩⟩
  case hS => rintro i ys nw' ⟨rfl, -⟩; walk_at "MY in"
  case turn =>
    rintro i v ys nw' I oI Cc oC D m₂ h tk E' QE hQE hi ⟨key, y, hky, hv⟩ ⟨rfl, hys⟩ hoC hx F₁ N₁ oI1 oC1 oD1 n1 n2 n3
    obtain ⟨e, x, he, rfl, rfl, a1, a2, a3, hx3⟩ := K.tups.get hky
    obtain ⟨tv, rfl⟩ := Value.isInt_shape hv
    have hat := valueAt_of_get (keysNodup_of_isDictOf hdT) hky
    have hx4 := K.inRest _ hx3
    have hsn : (es.map (·.one)).take (i + 1) = (es.map (·.one)).take i ++ [e.one] := by rw [List.take_add_one, List.getElem?_map, he]; rfl
    unfold tupD at hx4
    clear F9 N9
    try k_fold
    clear hx3
    ((repeat' ( (fail_if_success (with_reducible show wpAny _ _ (execs (Stmt.Assign [PySem.Expr.Name (Str.ofString "runs") _] _ _ :: _) _) _ _ _)); (fail_if_success (with_reducible show wpAny _ _ (call (Value.ref 170) _) _ _ _)); (fail_if_success (with_reducible show wpAny _ _ (eval (PySem.Expr.ListComp _ _ _ _) _) _ _ _)); (fail_if_success (with_reducible show wpAny _ _ (subscriptTail _ _ (Value.ref _) (Value.int 1 _)) _ _ _)); (fail_if_success (with_reducible show wpAny _ _ (subscriptTail _ _ (Value.ref _) (Value.int 2 _)) _ _ _)); (first | (k_unfold; (try dsimp only)) | (k_end; wrow_close) | walk1 | (dsimp only; walk1) | (leave1; walk_say "STEP leave1"; try dsimp only) | fail "no step"))); all_goals (try k_fold))
    refine item_tup (by k_asm) (n := 0) (its := [.str e.way a1, .int e.one a2, .int e.two a3]) (by walk_at "MY in") (by decide) (by decide) rfl ?_ (by with_unfolding_all rfl)
    try k_fold
    ((repeat' ( (fail_if_success (with_reducible show wpAny _ _ (execs (Stmt.Assign [PySem.Expr.Name (Str.ofString "runs") _] _ _ :: _) _) _ _ _)); (fail_if_success (with_reducible show wpAny _ _ (call (Value.ref 170) _) _ _ _)); (fail_if_success (with_reducible show wpAny _ _ (eval (PySem.Expr.ListComp _ _ _ _) _) _ _ _)); (fail_if_success (with_reducible show wpAny _ _ (subscriptTail _ _ (Value.ref _) (Value.int 1 _)) _ _ _)); (fail_if_success (with_reducible show wpAny _ _ (subscriptTail _ _ (Value.ref _) (Value.int 2 _)) _ _ _)); (first | (k_unfold; (try dsimp only)) | (k_end; wrow_close) | walk1 | (dsimp only; walk1) | (leave1; walk_say "STEP leave1"; try dsimp only) | fail "no step"))); all_goals (try k_fold))
    exact hQE _ _ ⟨_, _, _, rfl, F₁, N₁, oI1, oC1, oD1, rfl, by rw [hsn]; exact ints_snoc hys _ _⟩
  case hF =>
    rintro ys nw' ⟨rfl, hys⟩
    rw [hkl, ← List.length_map (·.one), List.take_length] at hys
    unfold LCg.FinE
    intro D h tk F₁ N₁ o1
    have hyl : ys.length = es.length := by rw [hys.length, List.length_map]
    clear F9 N9
    try k_fold
    ((repeat' ( (fail_if_success (with_reducible show wpAny _ _ (execs (Stmt.Assign [PySem.Expr.Name (Str.ofString "runs") _] _ _ :: _) _) _ _ _)); (fail_if_success (with_reducible show wpAny _ _ (call (Value.ref 170) _) _ _ _)); (fail_if_success (with_reducible show wpAny _ _ (eval (PySem.Expr.ListComp _ _ _ _) _) _ _ _)); (fail_if_success (with_reducible show wpAny _ _ (subscriptTail _ _ (Value.ref _) (Value.int 1 _)) _ _ _)); (fail_if_success (with_reducible show wpAny _ _ (subscriptTail _ _ (Value.ref _) (Value.int 2 _)) _ _ _)); (first | (k_unfold; (try dsimp only)) | (k_end; wrow_close) | walk1 | (dsimp only; walk1) | (leave1; walk_say "STEP leave1"; try dsimp only) | fail "no step"))); all_goals (try k_fold))
    refine' does_use (fw_does w ((D, LCg.lst ys) :: news) D ys (es.map (·.one)) ys.length 1 _ (.head _) hys (by omega) ?kn) ?k1 ?k2 ?k3 ?k4 ?k5 ?k6 ?k7 ?k8 ?_
    case kn =>
      intro n hn
      obtain ⟨e, he, rfl⟩ := List.mem_map.mp hn
      exact (K.tbl.vals e he).2.1
    walk_at "MY call"
    rintro v9 news9 h9 tk9 ⟨⟨M, tM, rfl, hM1, hM2, hM3⟩, rfl⟩ F8 N8
    have hM : M = ((topOne es : Nat) : Int) := top_is (f := (·.one)) (b := 1) hM1 hM2 hM3
    subst hM
    clear F₁ N₁
    try k_fold
    ((repeat' ( (fail_if_success (with_reducible show wpAny _ _ (execs (Stmt.Assign [PySem.Expr.Name (Str.ofString "runs") _] _ _ :: _) _) _ _ _)); (fail_if_success (with_reducible show wpAny _ _ (call (Value.ref 170) _) _ _ _)); (fail_if_success (with_reducible show wpAny _ _ (eval (PySem.Expr.ListComp _ _ _ _) _) _ _ _)); (fail_if_success (with_reducible show wpAny _ _ (subscriptTail _ _ (Value.ref _) (Value.int 1 _)) _ _ _)); (fail_if_success (with_reducible show wpAny _ _ (subscriptTail _ _ (Value.ref _) (Value.int 2 _)) _ _ _)); (first | (k_unfold; (try dsimp only)) | (k_end; wrow_close) | walk1 | (dsimp only; walk1) | (leave1; walk_say "STEP leave1"; try dsimp only) | fail "no step"))); all_goals (try k_fold))
    have N7 : News h₀ L h9 news := news_sub N8 fun p hp => .tail _ hp
    refine comp_dict (knd := PySem.intKind prg w) (h₀ := h₀) (L := L) (m := (fun x => if x = Str.ofString "entries" then some (Value.ref en) else if x = Str.ofString "least_widths" then some (Value.ref lw) else if x = Str.ofString "is_mixed" then some (Value.bool b) else m x)) (by with_unfolding_all rfl) (by decide) rfl (by decide) rfl rfl ?_
    ((repeat' ( (fail_if_success (with_reducible show wpAny _ _ (execs (Stmt.Assign [PySem.Expr.Name (Str.ofString "runs") _] _ _ :: _) _) _ _ _)); (fail_if_success (with_reducible show wpAny _ _ (call (Value.ref 170) _) _ _ _)); (fail_if_success (with_reducible show wpAny _ _ (eval (PySem.Expr.ListComp _ _ _ _) _) _ _ _)); (fail_if_success (with_reducible show wpAny _ _ (subscriptTail _ _ (Value.ref _) (Value.int 1 _)) _ _ _)); (fail_if_success (with_reducible show wpAny _ _ (subscriptTail _ _ (Value.ref _) (Value.int 2 _)) _ _ _)); (first | (k_unfold; (try dsimp only)) | (k_end; wrow_close) | walk1 | (dsimp only; walk1) | (leave1; walk_say "STEP leave1"; try dsimp only) | fail "no step"))); all_goals (try k_fold))
    refine ⟨tb, oTab, kvs, news, rfl, F8, N7, by walk_at "MY in", hdT, lo, by rw [sizeLine_eq]; omega, fun g => rest_of_inv (fun i ys nw' => news = nw' ∧ IntsAre ys ((es.map (·.two)).take i)) kvs.length ?hS ?hF ?turn kvs.length 0 [] _ (Nat.zero_add _) ⟨rfl, .nil⟩⟩
    case hS => rintro i ys nw' ⟨rfl, -⟩; walk_at "MY in"
    case turn =>
      rintro i v ys nw' I oI Cc oC D m₂ h tk E' QE hQE hi ⟨key, y, hky, hv⟩ ⟨rfl, hys⟩ hoC hx F₁ N₁ oI1 oC1 oD1 n1 n2 n3
      obtain ⟨e, x, he, rfl, rfl, a1, a2, a3, hx3⟩ := K.tups.get hky
      obtain ⟨tv, rfl⟩ := Value.isInt_shape hv
      have hat := valueAt_of_get (keysNodup_of_isDictOf hdT) hky
      have hx4 := K.inRest _ hx3
      have hsn : (es.map (·.two)).take (i + 1) = (es.map (·.two)).take i ++ [e.two] := by rw [List.take_add_one, List.getElem?_map, he]; rfl
      unfold tupD at hx4
      clear F8 N7
      try k_fold
      clear hx3
      ((repeat' ( (fail_if_success (with_reducible show wpAny _ _ (execs (Stmt.Assign [PySem.Expr.Name (Str.ofString "runs") _] _ _ :: _) _) _ _ _)); (fail_if_success (with_reducible show wpAny _ _ (call (Value.ref 170) _) _ _ _)); (fail_if_success (with_reducible show wpAny _ _ (eval (PySem.Expr.ListComp _ _ _ _) _) _ _ _)); (fail_if_success (with_reducible show wpAny _ _ (subscriptTail _ _ (Value.ref _) (Value.int 1 _)) _ _ _)); (fail_if_success (with_reducible show wpAny _ _ (subscriptTail _ _ (Value.ref _) (Value.int 2 _)) _ _ _)); (first | (k_unfold; (try dsimp only)) | (k_end; wrow_close) | walk1 | (dsimp only; walk1) | (leave1; walk_say "STEP leave1"; try dsimp only) | fail "no step"))); all_goals (try k_fold))
      refine item_tup (by k_asm) (n := 0) (its := [.str e.way a1, .int e.one a2, .int e.two a3]) (by walk_at "MY in") (by decide) (by decide) rfl ?_ (by with_unfolding_all rfl)
      try k_fold
      ((repeat' ( (fail_if_success (with_reducible show wpAny _ _ (execs (Stmt.Assign [PySem.Expr.Name (Str.ofString "runs") _] _ _ :: _) _) _ _ _)); (fail_if_success (with_reducible show wpAny _ _ (call (Value.ref 170) _) _ _ _)); (fail_if_success (with_reducible show wpAny _ _ (eval (PySem.Expr.ListComp _ _ _ _) _) _ _ _)); (fail_if_success (with_reducible show wpAny _ _ (subscriptTail _ _ (Value.ref _) (Value.int 1 _)) _ _ _)); (fail_if_success (with_reducible show wpAny _ _ (subscriptTail _ _ (Value.ref _) (Value.int 2 _)) _ _ _)); (first | (k_unfold; (try dsimp only)) | (k_end; wrow_close) | walk1 | (dsimp only; walk1) | (leave1; walk_say "STEP leave1"; try dsimp only) | fail "no step"))); all_goals (try k_fold))
      exact hQE _ _ ⟨_, _, _, rfl, F₁, N₁, oI1, oC1, oD1, rfl, by rw [hsn]; exact ints_snoc hys _ _⟩
    case hF =>
      rintro zs nw' ⟨rfl, hys⟩
      rw [hkl, ← List.length_map (·.two), List.take_length] at hys
      unfold LCg.FinE
      intro D h tk F₁ N₁ o1
      have hyl : zs.length = es.length := by rw [hys.length, List.length_map]
      clear F8 N7 N8
      try k_fold
      ((repeat' ( (fail_if_success (with_reducible show wpAny _ _ (execs (Stmt.Assign [PySem.Expr.Name (Str.ofString "runs") _] _ _ :: _) _) _ _ _)); (fail_if_success (with_reducible show wpAny _ _ (call (Value.ref 170) _) _ _ _)); (fail_if_success (with_reducible show wpAny _ _ (eval (PySem.Expr.ListComp _ _ _ _) _) _ _ _)); (fail_if_success (with_reducible show wpAny _ _ (subscriptTail _ _ (Value.ref _) (Value.int 1 _)) _ _ _)); (fail_if_success (with_reducible show wpAny _ _ (subscriptTail _ _ (Value.ref _) (Value.int 2 _)) _ _ _)); (first | (k_unfold; (try dsimp only)) | (k_end; wrow_close) | walk1 | (dsimp only; walk1) | (leave1; walk_say "STEP leave1"; try dsimp only) | fail "no step"))); all_goals (try k_fold))
      refine' does_use (fw_does w ((D, LCg.lst zs) :: news) D zs (es.map (·.two)) zs.length 0 _ (.head _) hys (by omega) ?kn) ?k1 ?k2 ?k3 ?k4 ?k5 ?k6 ?k7 ?k8 ?_
      case kn =>
        intro n hn
        obtain ⟨e, he, rfl⟩ := List.mem_map.mp hn
        exact (K.tbl.vals e he).2.2.2.1
      walk_at "MY call"
      rintro v9 news9 h9 tk9 ⟨⟨M, tM, rfl, hM1, hM2, hM3⟩, rfl⟩ F6 N6
      have hM : M = ((topTwo es : Nat) : Int) := top_is (f := (·.two)) (b := 0) hM1 hM2 hM3
      subst hM
      clear F₁ N₁
      try k_fold
      ((repeat' ( (fail_if_success (with_reducible show wpAny _ _ (execs (Stmt.Assign [PySem.Expr.Name (Str.ofString "runs") _] _ _ :: _) _) _ _ _)); (fail_if_success (with_reducible show wpAny _ _ (call (Value.ref 170) _) _ _ _)); (fail_if_success (with_reducible show wpAny _ _ (eval (PySem.Expr.ListComp _ _ _ _) _) _ _ _)); (fail_if_success (with_reducible show wpAny _ _ (subscriptTail _ _ (Value.ref _) (Value.int 1 _)) _ _ _)); (fail_if_success (with_reducible show wpAny _ _ (subscriptTail _ _ (Value.ref _) (Value.int 2 _)) _ _ _)); (first | (k_unfold; (try dsimp only)) | (k_end; wrow_close) | walk1 | (dsimp only; walk1) | (leave1; walk_say "STEP leave1"; try dsimp only) | fail "no step"))); all_goals (try k_fold))
      (rename News _ _ _ _ => lN')
      have hlw' := K.inRest _ hlw
      rw [← hmix] at lN'
      have r1 := reads_tuple_at (xs := [.int (mixN es), .int (topOne es : Nat), .int (topTwo es : Nat)]) (as := []) (lN' _ (.tail _ (.tail _ hlw'))).1 rfl rfl (readsAll_cons_val (.int _ _) (readsAll_cons_val (.int _ _) (readsAll_cons_val (.int _ _) .nil)))
      have r2 := reads_tuple_at (xs := [.int (mixN es), .int (topOne es : Nat), .int (topTwo es : Nat)]) (as := []) (lN' _ (.head _)).1 rfl rfl (readsAll_cons_val (.int _ _) (readsAll_cons_val (.int _ _) (readsAll_cons_val (.int _ _) .nil)))
      refine ne_dataH r1 r2 rfl rfl (by ke_room) ?_
      have he : PyData.eqv (.tuple [.int (mixN es), .int (topOne es : Nat), .int (topTwo es : Nat)]) (.tuple [.int (mixN es), .int (topOne es : Nat), .int (topTwo es : Nat)]) = true := by simp [PyData.eqv, PyData.eqvAll]
      rw [he]
      rw [Bool.not_true]
      clear r1 r2 he
      try k_fold
      ((repeat' ( (fail_if_success (with_reducible show wpAny _ _ (execs (Stmt.Assign [PySem.Expr.Name (Str.ofString "runs") _] _ _ :: _) _) _ _ _)); (fail_if_success (with_reducible show wpAny _ _ (call (Value.ref 170) _) _ _ _)); (fail_if_success (with_reducible show wpAny _ _ (eval (PySem.Expr.ListComp _ _ _ _) _) _ _ _)); (fail_if_success (with_reducible show wpAny _ _ (subscriptTail _ _ (Value.ref _) (Value.int 1 _)) _ _ _)); (fail_if_success (with_reducible show wpAny _ _ (subscriptTail _ _ (Value.ref _) (Value.int 2 _)) _ _ _)); (first | (k_unfold; (try dsimp only)) | (k_end; wrow_close) | walk1 | (dsimp only; walk1) | (leave1; walk_say "STEP leave1"; try dsimp only) | fail "no step"))); all_goals (try k_fold))
      dsimp only
      (rename Fr _ _ _ _ => lF')
      (rename (_ ∧ AllLt _ _) => la)
      obtain ⟨du, u1, u2, u3, edu, lN2⟩ := led_tup3 lN'
      subst edu
      obtain ⟨news', K', i1, i2⟩ := K.more (du, tup3 (mixN es) (topOne es : Nat) (topTwo es : Nat) u1 u2 u3) (fun p hp => allLt_mem la.2 p hp)
      refine next _ _ ⟨_, en, du, _, _, _, tb, oTab, oT, oF, oS, oP, _, news', kvs, es, oE, kvsE, fr_upd _ lF' ⟨rfl, rfl, trivial⟩, news_sub lN2 (fun p hp => ?_), K', hE.mono fun p hp => .tail _ hp, .head _⟩
      rcases List.mem_cons.mp (i1 p hp) with h | h
      · rw [h]; exact .head _
      · exact .tail _ (.tail _ h)
end
theorem st7 : ∀ (w : World) (h₀ : Heap) (L fa pen : Addr) (ccd : Value) (mean : ExcName → Option Value) (mg mb : Str → Option Value) (Q : Flow → Shared → Prop) (E : Value → Shared → Prop) (s : Shared)
    (B : Below callerA h₀ [] h₀) (X : (hd.heap_1 w.params).In h₀) (T : Top hview (looseW hview [Str.ofString "PaperError"]) mean mg mb h₀)
    (I5 : Inv8 w h₀ L pen s.heap) (next : ∀ h tk, Inv10 w h₀ L pen h → wpAny (model PySem.Challenge.rw_og0136_01.row.prog w) (callerA.deeper (lawE L fa ccd)) (lawT 10 L fa ccd) Q E { s with heap := h, toks := tk }),
    wpAny (model PySem.Challenge.rw_og0136_01.row.prog w) (callerA.deeper (lawE L fa ccd)) (lawT 8 L fa ccd) Q E s := by
  intro w h₀ L fa pen ccd mean mg mb Q E s B X T I5 next
  obtain ⟨m, en, lw, b, t1, t2, t3, tb, oTab, oT, oF, oS, oP, rest, news, kvs, es, oE, kvsE, F9, N9, K, hE, hlw, hmix⟩ := I5
  obtain ⟨hp, gs, dr, tks, os⟩ := s
  exact (Classical.byContradiction fun hn => @Classical.epsilon_spec _ (fun x : (World) × (Heap) × (Addr) × (Addr) × (Addr) × (Value) × (ExcName → Option Value) × (Str → Option Value) × (Str → Option Value) × (Flow → Shared → Prop) × (Value → Shared → Prop) × (Heap) × (Array GenState) × (Drawn) × (Nat) × (OsState) × (Str → Option Value) × (Addr) × (Addr) × (Bool) × (Tok) × (Tok) × (Tok) × (Addr) × (Obj) × (Obj) × (Obj) × (Obj) × (Obj) × (Led) × (Led) × (List (Int × Value)) × (List Ent) × (Obj) × (List (Int × Value)) => ¬ Zst7.G (x.1) (x.2.1) (x.2.2.1) (x.2.2.2.1) (x.2.2.2.2.1) (x.2.2.2.2.2.1) (x.2.2.2.2.2.2.1) (x.2.2.2.2.2.2.2.1) (x.2.2.2.2.2.2.2.2.1) (x.2.2.2.2.2.2.2.2.2.1) (x.2.2.2.2.2.2.2.2.2.2.1) (x.2.2.2.2.2.2.2.2.2.2.2.1) (x.2.2.2.2.2.2.2.2.2.2.2.2.1) (x.2.2.2.2.2.2.2.2.2.2.2.2.2.1) (x.2.2.2.2.2.2.2.2.2.2.2.2.2.2.1) (x.2.2.2.2.2.2.2.2.2.2.2.2.2.2.2.1) (x.2.2.2.2.2.2.2.2.2.2.2.2.2.2.2.2.1) (x.2.2.2.2.2.2.2.2.2.2.2.2.2.2.2.2.2.1) (x.2.2.2.2.2.2.2.2.2.2.2.2.2.2.2.2.2.2.1) (x.2.2.2.2.2.2.2.2.2.2.2.2.2.2.2.2.2.2.2.1) (x.2.2.2.2.2.2.2.2.2.2.2.2.2.2.2.2.2.2.2.2.1) (x.2.2.2.2.2.2.2.2.2.2.2.2.2.2.2.2.2.2.2.2.2.1) (x.2.2.2.2.2.2.2.2.2.2.2.2.2.2.2.2.2.2.2.2.2.2.1) (x.2.2.2.2.2.2.2.2.2.2.2.2.2.2.2.2.2.2.2.2.2.2.2.1) (x.2.2.2.2.2.2.2.2.2.2.2.2.2.2.2.2.2.2.2.2.2.2.2.2.1) (x.2.2.2.2.2.2.2.2.2.2.2.2.2.2.2.2.2.2.2.2.2.2.2.2.2.1) (x.2.2.2.2.2.2.2.2.2.2.2.2.2.2.2.2.2.2.2.2.2.2.2.2.2.2.1) (x.2.2.2.2.2.2.2.2.2.2.2.2.2.2.2.2.2.2.2.2.2.2.2.2.2.2.2.1) (x.2.2.2.2.2.2.2.2.2.2.2.2.2.2.2.2.2.2.2.2.2.2.2.2.2.2.2.2.1) (x.2.2.2.2.2.2.2.2.2.2.2.2.2.2.2.2.2.2.2.2.2.2.2.2.2.2.2.2.2.1) (x.2.2.2.2.2.2.2.2.2.2.2.2.2.2.2.2.2.2.2.2.2.2.2.2.2.2.2.2.2.2.1) (x.2.2.2.2.2.2.2.2.2.2.2.2.2.2.2.2.2.2.2.2.2.2.2.2.2.2.2.2.2.2.2.1) (x.2.2.2.2.2.2.2.2.2.2.2.2.2.2.2.2.2.2.2.2.2.2.2.2.2.2.2.2.2.2.2.2.1) (x.2.2.2.2.2.2.2.2.2.2.2.2.2.2.2.2.2.2.2.2.2.2.2.2.2.2.2.2.2.2.2.2.2.1) (x.2.2.2.2.2.2.2.2.2.2.2.2.2.2.2.2.2.2.2.2.2.2.2.2.2.2.2.2.2.2.2.2.2.2)) ⟨(w, h₀, L, fa, pen, ccd, mean, mg, mb, Q, E, hp, gs, dr, tks, os, m, en, lw, b, t1, t2, t3, tb, oTab, oT, oF, oS, oP, rest, news, kvs, es, oE, kvsE), hn⟩ Zst7.main) B X T F9 N9 K hE hlw hmix next
end Mine
end
section
namespace Mine
/-- the ledger without the address a -/
noncomputable def offL (a : Nat) (l : Led) : Led := l.filter fun p => !(Nat.beq p.1 a)
theorem offL_mem {a : Nat} {l : Led} {p : Addr × Obj} : p ∈ offL a l ↔ p ∈ l ∧ @Ne Nat p.1 a := by
  unfold offL
  rw [List.mem_filter]
  constructor
  · rintro ⟨h1, h2⟩
    refine ⟨h1, fun e => ?_⟩
    rw [e, Nat.beq_refl] at h2
    cases h2
  · rintro ⟨h1, h2⟩
    refine ⟨h1, ?_⟩
    cases q : Nat.beq p.1 a
    · rfl
    · exact absurd (Nat.eq_of_beq_eq_true q) h2
theorem offL_ne {a : Nat} {l : Led} : ∀ p ∈ offL a l, @Ne Nat p.1 a := fun _ hp => (offL_mem.mp hp).2
theorem offL_sub {a : Nat} {l : Led} : ∀ p ∈ offL a l, p ∈ l := fun _ hp => (offL_mem.mp hp).1
/-- an object that is no cell does not stand at the cell's address -/
theorem off_cell {h₀ h : Heap} {L : Addr} {l : Led} {a : Nat} {o : Obj} {c : Option Value} (N : News h₀ L h l) (ha : ((a : Addr), o) ∈ l) (hc : o.data = .cell c) {p : Addr × Obj} (hp : p ∈ l) (hn : ∀ c, p.2.data ≠ .cell c) : p ∈ offL a l := by
  refine offL_mem.mpr ⟨hp, fun e => ?_⟩
  have h1 := (N _ hp).1
  have h2 := (N _ ha).1
  rw [show p.1 = (a : Addr) from e] at h1
  have e2 : p.2 = o := Option.some.inj (h1.symm.trans h2)
  exact hn c (by rw [e2]; exact hc)
theorem news_cell {h₀ h : Heap} {L : Addr} {l : Led} {a : Nat} {o : Obj} (N : News h₀ L h l) (ha : ((a : Addr), o) ∈ l) : News h₀ L h (((a : Addr), o) :: offL a l) :=
  news_sub N fun p hp => by
    rcases List.mem_cons.mp hp with e | h
    · rw [e]; exact ha
    · exact offL_sub p h
section
variable {w : World} {L pen tb : Addr} {news : Led} {oTab oT oF oS oP : Obj} {rest : Led} {kvs : List (Int × Value)} {es : List Ent}
theorem Core.setF (K : Core w L pen news tb oTab oT oF oS oP rest kvs es) {oF2 : Obj} {c : Option Value} (h : oF2.data = .cell c) :
    ∃ news', Core w L pen news' tb oTab oT oF2 oS oP rest kvs es ∧ ∀ p ∈ news', p = (L + 1 + 1 + 1, oF2) ∨ (p ∈ news ∧ @Ne Nat p.1 (L + 1 + 1 + 1)) := by
  obtain ⟨⟨cl, k, tk, r, tr, vs, ns, n, rfl, hI, hl, hne, hr1, hr2⟩, C, hdT, lo, hTu, hTb, hes0, hes⟩ := K
  have l1 := C.ltT
  have l2 := C.ltP
  have w2 : @Ne Nat (L + 1 + 1 + 1) cl := hr2 (L + 1 + 1 + 1, oF) (.tail _ (.tail _ (.head _)))
  refine ⟨_, ⟨⟨cl, k, tk, r, tr, vs, ns, n, rfl, hI, hl, hne, ?a, ?b⟩, ⟨C.far, C.offT, C.ltT, C.ltP, C.cP, C.cT, ⟨c, h⟩, C.cS⟩, hdT, lo, hTu, hTb, hes0, hes⟩, ?e⟩
  case a =>
    simp only [cellsL, List.forall_mem_cons] at hr1 ⊢
    exact hr1
  case b =>
    simp only [cellsL, List.forall_mem_cons] at hr2 ⊢
    exact hr2
  case e =>
    have far := C.far
    simp only [cellsL, List.forall_mem_cons]
    refine ⟨.inr ⟨.head _, ?_⟩, .inr ⟨.tail _ (.head _), ?_⟩, .inr ⟨.tail _ (.tail _ (.head _)), ?_⟩, .inr ⟨.tail _ (.tail _ (.tail _ (.head _))), ?_⟩, .inl trivial, .inr ⟨.tail _ (.tail _ (.tail _ (.tail _ (.tail _ (.head _))))), ?_⟩, .inr ⟨.tail _ (.tail _ (.tail _ (.tail _ (.tail _ (.tail _ (.head _)))))), ?_⟩, fun p hp => .inr ⟨.tail _ (.tail _ (.tail _ (.tail _ (.tail _ (.tail _ (.tail _ hp)))))), ?_⟩⟩
    · show @Ne Nat _ _; omega
    · show @Ne Nat _ _; omega
    · show @Ne Nat _ _; omega
    · show @Ne Nat _ _; omega
    · show @Ne Nat _ _; omega
    · show @Ne Nat _ _; omega
    · have := far p hp; omega
end
theorem mixN_zero {es : List Ent} (h : mixN es ≤ 0) : ∀ e ∈ es, e.way = Str.ofString "used" := by
  intro e he
  unfold mixN at h
  split at h
  · omega
  · rename_i hn
    have hn' : ¬ ∃ e ∈ es, (e.way != Str.ofString "used") = true := fun q => hn (by rw [List.any_eq_true]; exact q)
    by_cases hw : (e.way != Str.ofString "used") = true
    · exact absurd ⟨e, he, hw⟩ hn'
    · simpa using hw
theorem widths_ok {es : List Ent} (hT : Tbl es) {x y z : Nat} (h0 : mixN es ≤ x) (h1 : topOne es ≤ y) (h2 : topTwo es ≤ z) : ∀ e ∈ es, IsWay e.way ∧ (x = 0 → e.way = Str.ofString "used") ∧ rst e.one y = 0 ∧ rst e.two z = 0 := by
  intro e he
  obtain ⟨v1, v2, v3, v4, v5⟩ := hT.vals e he
  obtain ⟨-, g1, -⟩ := fold_top (fun e => e.one) es 1
  obtain ⟨-, g2, -⟩ := fold_top (fun e => e.two) es 0
  have g1' : wid e.one.toNat ≤ topOne es := g1 e he
  have g2' : wid e.two.toNat ≤ topTwo es := g2 e he
  exact ⟨v1, fun hx => mixN_zero (by omega) e he, rst_fits v2 (by omega), rst_fits v4 (by omega)⟩
theorem top_small {es : List Ent} (hT : Tbl es) : 1 ≤ topOne es ∧ topOne es ≤ 3 ∧ topTwo es ≤ 3 := by
  obtain ⟨a1, -, a3⟩ := fold_top (fun e => e.one) es 1
  obtain ⟨-, -, b3⟩ := fold_top (fun e => e.two) es 0
  refine ⟨a1, ?_, ?_⟩
  · show es.foldl (fun m e => max m (wid e.one.toNat)) 1 ≤ 3
    rcases a3 with h | ⟨e, he, h⟩
    · omega
    · have := hT.vals e he
      have := wid_small (n := e.one.toNat) (by omega)
      omega
  · show es.foldl (fun m e => max m (wid e.two.toNat)) 0 ≤ 3
    rcases b3 with h | ⟨e, he, h⟩
    · omega
    · have := hT.vals e he
      have := wid_small (n := e.two.toNat) (by omega)
      omega
end Mine
namespace Mine
theorem EntAt.mono' {w : World} {news news' : Led} {x : Addr} {e : Ent} (h : EntAt w news x e) (hs : ∀ p ∈ news, (∀ c, p.2.data ≠ .cell c) → p ∈ news') : EntAt w news' x e := by
  obtain ⟨d, a1, a2, a3, a4, a5, a6, h1, h2⟩ := h
  exact ⟨d, a1, a2, a3, a4, a5, a6, hs _ h1 (fun c h => by cases h), hs _ h2 (fun c h => by cases h)⟩
theorem EntsAt.mono' {w : World} {news news' : Led} {kvs : List (Int × Value)} {es : List Ent} (h : EntsAt w news kvs es) (hs : ∀ p ∈ news, (∀ c, p.2.data ≠ .cell c) → p ∈ news') : EntsAt w news' kvs es := by
  induction h with
  | nil => exact .nil
  | cons a _ ih => exact .cons (a.mono' hs) ih
end Mine
end
section
namespace Mine
/-- the pen and the cells -/
structure Pre (L pen : Addr) (news : Led) (tb : Addr) (oTab oT oF oS oP : Obj) (rest : Led) : Prop where
  isPen : PenIs news pen (cellsL L tb oTab oT oF oS oP rest)
  cells : Cells L pen tb oT oF oS oP rest
section
variable {L pen tb : Addr} {news : Led} {oTab oT oF oS oP : Obj} {rest : Led}
theorem Pre.inTab (K : Pre L pen news tb oTab oT oF oS oP rest) : (tb, oTab) ∈ news := K.isPen.inRest _ (.head _)
theorem Pre.inT (K : Pre L pen news tb oTab oT oF oS oP rest) : (L + 1 + 1, oT) ∈ news := K.isPen.inRest _ (.tail _ (.head _))
theorem Pre.inP (K : Pre L pen news tb oTab oT oF oS oP rest) : (L + 1, oP) ∈ news := K.isPen.inRest _ (.tail _ (.tail _ (.tail _ (.tail _ (.head _)))))
theorem Pre.inRest (K : Pre L pen news tb oTab oT oF oS oP rest) : ∀ p ∈ rest, p ∈ news := fun p hp => K.isPen.inRest _ (.tail _ (.tail _ (.tail _ (.tail _ (.tail _ hp)))))
/-- the table's dict changed, one object more -/
theorem Pre.setTab (K : Pre L pen news tb oTab oT oF oS oP rest) (oTab2 : Obj) (x : Addr × Obj) (lt : ∀ p ∈ news, @LT.lt Nat _ p.1 x.1) :
    ∃ news', Pre L pen news' tb oTab2 oT oF oS oP (x :: rest) ∧ ∀ p ∈ news', p = (tb, oTab2) ∨ p = x ∨ (p ∈ news ∧ @Ne Nat p.1 tb) := by
  have c0 := lt _ K.inTab
  have cT := lt _ K.inT
  obtain ⟨⟨cl, k, tk, r, tr, vs, ns, n, rfl, hI, hl, hne, hr1, hr2⟩, C⟩ := K
  have c6 := lt _ (.head _)
  have c7 := lt _ (.tail _ (.head _))
  have l1 := C.ltT
  have l2 := C.ltP
  have w1 : @Ne Nat tb pen := hr1 (tb, oTab) (.head _)
  have w2 : @Ne Nat tb cl := hr2 (tb, oTab) (.head _)
  dsimp only at c0 cT c6 c7
  refine ⟨_, ⟨⟨cl, k, tk, r, tr, vs, ns, n, rfl, hI, hl, hne, ?a, ?b⟩, Cells.more C ?c ?d⟩, ?e⟩
  case a =>
    simp only [cellsL, List.forall_mem_cons] at hr1 ⊢
    exact ⟨hr1.1, hr1.2.1, hr1.2.2.1, hr1.2.2.2.1, hr1.2.2.2.2.1, Nat.ne_of_gt c6, hr1.2.2.2.2.2⟩
  case b =>
    simp only [cellsL, List.forall_mem_cons] at hr2 ⊢
    exact ⟨hr2.1, hr2.2.1, hr2.2.2.1, hr2.2.2.2.1, hr2.2.2.2.2.1, Nat.ne_of_gt c7, hr2.2.2.2.2.2⟩
  case c => exact Nat.lt_trans l2 c6
  case d => exact Nat.ne_of_gt c0
  case e =>
    simp only [cellsL, List.forall_mem_cons]
    refine ⟨.inr (.inr ⟨.head _, w1.symm⟩), .inr (.inr ⟨.tail _ (.head _), w2.symm⟩), .inl trivial, .inr (.inr ⟨.tail _ (.tail _ (.tail _ (.head _))), ?_⟩), .inr (.inr ⟨.tail _ (.tail _ (.tail _ (.tail _ (.head _)))), ?_⟩), .inr (.inr ⟨.tail _ (.tail _ (.tail _ (.tail _ (.tail _ (.head _))))), ?_⟩), .inr (.inr ⟨.tail _ (.tail _ (.tail _ (.tail _ (.tail _ (.tail _ (.head _)))))), ?_⟩), .inr (.inl trivial), fun p hp => .inr (.inr ⟨.tail _ (.tail _ (.tail _ (.tail _ (.tail _ (.tail _ (.tail _ hp)))))), C.offT p hp⟩)⟩
    · show @Ne Nat _ _; omega
    · show @Ne Nat _ _; omega
    · show @Ne Nat _ _; omega
    · show @Ne Nat _ _; omega
end
end Mine
end
section
theorem Mine.offL2 : True := by w_top off; trivial
namespace Mine
noncomputable def Zst2.G (w : World) (h₀ : Heap) (L : Addr) (fa : Addr) (pen : Addr) (ccd : Value) (mean : ExcName → Option Value) (mg : Str → Option Value) (mb : Str → Option Value) (Q : Flow → Shared → Prop) (E : Value → Shared → Prop) (hp : Heap) (gs : Array GenState) (dr : Drawn) (tks : Nat) (os : OsState) (m : Str → Option Value) (wa : Addr) (tb : Addr) (oTab : Obj) (oT : Obj) (oF : Obj) (oS : Obj) (oP : Obj) (rest : Led) (news : Led) (num : Int) (tn : Tok) : Prop :=
  ∀ (B : Below callerA h₀ [] h₀), ∀ (X : (hd.heap_1 w.params).In h₀), ∀ (T : Top hview (looseW hview [Str.ofString "PaperError"]) mean mg mb h₀), ∀ (hE : PassesOwn (model PySem.Challenge.rw_og0136_01.row.prog w) (callerA.deeper (lawE L fa ccd)) (lawE L fa ccd) E), ∀ (F : Fr h₀ L hp (upd [(Str.ofString "ways", some (.ref wa)), (Str.ofString "number", some (.int num tn))] m)), ∀ (N : News h₀ L hp news), ∀ (P : PenIs news pen (cellsL L tb oTab oT oF oS oP rest)), ∀ (C : Cells L pen tb oT oF oS oP rest), ∀ (hdT : Obj.IsDictOf (PySem.intKind prg w) oTab []), ∀ (lo : (tb == sysModules) = false), ∀ (hW : WaysAt rest wa), ∀ (hn0 : 0 ≤ num), ∀ (hn1 : num < 4), ∀ (next : ∀ h tk, Inv4 w h₀ L pen h → wpAny (model PySem.Challenge.rw_og0136_01.row.prog w) (callerA.deeper (lawE L fa ccd)) (lawT 4 L fa ccd) Q E (⟨h, gs, dr, tk, os⟩ : Shared)), wpAny (model PySem.Challenge.rw_og0136_01.row.prog w) (callerA.deeper (lawE L fa ccd)) (lawT 3 L fa ccd) Q E ⟨hp, gs, dr, tks, os⟩
noncomputable def Zst2.c : (World) × (Heap) × (Addr) × (Addr) × (Addr) × (Value) × (ExcName → Option Value) × (Str → Option Value) × (Str → Option Value) × (Flow → Shared → Prop) × (Value → Shared → Prop) × (Heap) × (Array GenState) × (Drawn) × (Nat) × (OsState) × (Str → Option Value) × (Addr) × (Addr) × (Obj) × (Obj) × (Obj) × (Obj) × (Obj) × (Led) × (Led) × (Int) × (Tok) :=
  @Classical.epsilon _ ⟨((aWorld 0 : World), (default : Heap), (default : Addr), (default : Addr), (default : Addr), (default : Value), (fun _ => none : ExcName → Option Value), (fun _ => none : Str → Option Value), (fun _ => none : Str → Option Value), (fun _ _ => True : Flow → Shared → Prop), (fun _ _ => True : Value → Shared → Prop), (default : Heap), (#[] : Array GenState), ({} : Drawn), (default : Nat), ({} : OsState), (fun _ => none : Str → Option Value), (default : Addr), (default : Addr), (default : Obj), (default : Obj), (default : Obj), (default : Obj), (default : Obj), (default : Led), (default : Led), (default : Int), (default : Tok))⟩ fun x => ¬ Zst2.G (x.1) (x.2.1) (x.2.2.1) (x.2.2.2.1) (x.2.2.2.2.1) (x.2.2.2.2.2.1) (x.2.2.2.2.2.2.1) (x.2.2.2.2.2.2.2.1) (x.2.2.2.2.2.2.2.2.1) (x.2.2.2.2.2.2.2.2.2.1) (x.2.2.2.2.2.2.2.2.2.2.1) (x.2.2.2.2.2.2.2.2.2.2.2.1) (x.2.2.2.2.2.2.2.2.2.2.2.2.1) (x.2.2.2.2.2.2.2.2.2.2.2.2.2.1) (x.2.2.2.2.2.2.2.2.2.2.2.2.2.2.1) (x.2.2.2.2.2.2.2.2.2.2.2.2.2.2.2.1) (x.2.2.2.2.2.2.2.2.2.2.2.2.2.2.2.2.1) (x.2.2.2.2.2.2.2.2.2.2.2.2.2.2.2.2.2.1) (x.2.2.2.2.2.2.2.2.2.2.2.2.2.2.2.2.2.2.1) (x.2.2.2.2.2.2.2.2.2.2.2.2.2.2.2.2.2.2.2.1) (x.2.2.2.2.2.2.2.2.2.2.2.2.2.2.2.2.2.2.2.2.1) (x.2.2.2.2.2.2.2.2.2.2.2.2.2.2.2.2.2.2.2.2.2.1) (x.2.2.2.2.2.2.2.2.2.2.2.2.2.2.2.2.2.2.2.2.2.2.1) (x.2.2.2.2.2.2.2.2.2.2.2.2.2.2.2.2.2.2.2.2.2.2.2.1) (x.2.2.2.2.2.2.2.2.2.2.2.2.2.2.2.2.2.2.2.2.2.2.2.2.1) (x.2.2.2.2.2.2.2.2.2.2.2.2.2.2.2.2.2.2.2.2.2.2.2.2.2.1) (x.2.2.2.2.2.2.2.2.2.2.2.2.2.2.2.2.2.2.2.2.2.2.2.2.2.2.1) (x.2.2.2.2.2.2.2.2.2.2.2.2.2.2.2.2.2.2.2.2.2.2.2.2.2.2.2)
noncomputable def Zst2.V.w : World := Zst2.c.1
noncomputable def Zst2.V.h₀ : Heap := Zst2.c.2.1
noncomputable def Zst2.V.L : Addr := Zst2.c.2.2.1
noncomputable def Zst2.V.fa : Addr := Zst2.c.2.2.2.1
noncomputable def Zst2.V.pen : Addr := Zst2.c.2.2.2.2.1
noncomputable def Zst2.V.ccd : Value := Zst2.c.2.2.2.2.2.1
noncomputable def Zst2.V.mean : ExcName → Option Value := Zst2.c.2.2.2.2.2.2.1
noncomputable def Zst2.V.mg : Str → Option Value := Zst2.c.2.2.2.2.2.2.2.1
noncomputable def Zst2.V.mb : Str → Option Value := Zst2.c.2.2.2.2.2.2.2.2.1
noncomputable def Zst2.V.Q : Flow → Shared → Prop := Zst2.c.2.2.2.2.2.2.2.2.2.1
noncomputable def Zst2.V.E : Value → Shared → Prop := Zst2.c.2.2.2.2.2.2.2.2.2.2.1
noncomputable def Zst2.V.hp : Heap := Zst2.c.2.2.2.2.2.2.2.2.2.2.2.1
noncomputable def Zst2.V.gs : Array GenState := Zst2.c.2.2.2.2.2.2.2.2.2.2.2.2.1
noncomputable def Zst2.V.dr : Drawn := Zst2.c.2.2.2.2.2.2.2.2.2.2.2.2.2.1
noncomputable def Zst2.V.tks : Nat := Zst2.c.2.2.2.2.2.2.2.2.2.2.2.2.2.2.1
noncomputable def Zst2.V.os : OsState := Zst2.c.2.2.2.2.2.2.2.2.2.2.2.2.2.2.2.1
noncomputable def Zst2.V.m : Str → Option Value := Zst2.c.2.2.2.2.2.2.2.2.2.2.2.2.2.2.2.2.1
noncomputable def Zst2.V.wa : Addr := Zst2.c.2.2.2.2.2.2.2.2.2.2.2.2.2.2.2.2.2.1
noncomputable def Zst2.V.tb : Addr := Zst2.c.2.2.2.2.2.2.2.2.2.2.2.2.2.2.2.2.2.2.1
noncomputable def Zst2.V.oTab : Obj := Zst2.c.2.2.2.2.2.2.2.2.2.2.2.2.2.2.2.2.2.2.2.1
noncomputable def Zst2.V.oT : Obj := Zst2.c.2.2.2.2.2.2.2.2.2.2.2.2.2.2.2.2.2.2.2.2.1
noncomputable def Zst2.V.oF : Obj := Zst2.c.2.2.2.2.2.2.2.2.2.2.2.2.2.2.2.2.2.2.2.2.2.1
noncomputable def Zst2.V.oS : Obj := Zst2.c.2.2.2.2.2.2.2.2.2.2.2.2.2.2.2.2.2.2.2.2.2.2.1
noncomputable def Zst2.V.oP : Obj := Zst2.c.2.2.2.2.2.2.2.2.2.2.2.2.2.2.2.2.2.2.2.2.2.2.2.1
noncomputable def Zst2.V.rest : Led := Zst2.c.2.2.2.2.2.2.2.2.2.2.2.2.2.2.2.2.2.2.2.2.2.2.2.2.1
noncomputable def Zst2.V.news : Led := Zst2.c.2.2.2.2.2.2.2.2.2.2.2.2.2.2.2.2.2.2.2.2.2.2.2.2.2.1
noncomputable def Zst2.V.num : Int := Zst2.c.2.2.2.2.2.2.2.2.2.2.2.2.2.2.2.2.2.2.2.2.2.2.2.2.2.2.1
noncomputable def Zst2.V.tn : Tok := Zst2.c.2.2.2.2.2.2.2.2.2.2.2.2.2.2.2.2.2.2.2.2.2.2.2.2.2.2.2
section
open Zst2.V
set_option maxHeartbeats 8000000 in
theorem Zst2.main : Zst2.G Zst2.V.w Zst2.V.h₀ Zst2.V.L Zst2.V.fa Zst2.V.pen Zst2.V.ccd Zst2.V.mean Zst2.V.mg Zst2.V.mb Zst2.V.Q Zst2.V.E Zst2.V.hp Zst2.V.gs Zst2.V.dr Zst2.V.tks Zst2.V.os Zst2.V.m Zst2.V.wa Zst2.V.tb Zst2.V.oTab Zst2.V.oT Zst2.V.oF Zst2.V.oS Zst2.V.oP Zst2.V.rest Zst2.V.news Zst2.V.num Zst2.V.tn := by
  unfold Zst2.G
  k_fill
  intro B X T hE F N P C hdT lo hW hn0 hn1 next
  have K : Pre L pen news tb oTab oT oF oS oP rest := ⟨P, C⟩
  have dP := C.cP
  have dT := C.cT
  have hmP := K.inP
  try dsimp only at F N
  simp only [upd] at F
  dsimp only [lawE, lawT, lawB, List.drop] at hE ⊢
  try k_fold
  ((repeat' ( (fail_if_success (with_reducible show wpAny _ _ (call (Value.ref 158) _) _ _ _)); (fail_if_success (with_reducible show wpAny _ _ (call (Value.ref 151) _) _ _ _)); (fail_if_success (with_reducible show wpAny _ _ (pyIter (Value.ref _)) _ _ _)); (first | (k_unfold; (try dsimp only)) | (k_end; wrow_close) | ((with_reducible show wpAny _ _ (setItem (Value.ref _) (Value.int _ _) _) _ _ _); (k_here; k_dflt (refine' kda_set (knd := PySem.intKind _ _) ?my1 ?my2 ?my3 ?my4 (intKind_is _ _ _ _) ?my5 ?_; (case my1 => k_asm); (case my2 => k_asm); (case my3 => k_updF); (case my4 => assumption); (case my5 => exact fit100' (by assumption))); intro h' o' F' N' hd'; (try dsimp only at N'))) | walk1 | (dsimp only; walk1) | (leave1; walk_say "STEP leave1"; try dsimp only) | fail "no step"))); all_goals (try k_fold))
  refine' does_use (draw_does w news (cellsL L tb oTab oT oF oS oP rest) pen 6 _ (by decide) (by decide) K.isPen) ?k1 ?k2 ?k3 ?k4 ?k5 ?k6 ?k7 ?k8 ?_
  walk_at "MY call"
  rintro v9 news9 h9 tk9 ⟨d, td, rfl, hd0, hd1, P9⟩ F9 N9
  clear hmP
  try k_fold
  ((repeat' ( (fail_if_success (with_reducible show wpAny _ _ (call (Value.ref 158) _) _ _ _)); (fail_if_success (with_reducible show wpAny _ _ (call (Value.ref 151) _) _ _ _)); (fail_if_success (with_reducible show wpAny _ _ (pyIter (Value.ref _)) _ _ _)); (first | (k_unfold; (try dsimp only)) | (k_end; wrow_close) | ((with_reducible show wpAny _ _ (setItem (Value.ref _) (Value.int _ _) _) _ _ _); (k_here; k_dflt (refine' kda_set (knd := PySem.intKind _ _) ?my1 ?my2 ?my3 ?my4 (intKind_is _ _ _ _) ?my5 ?_; (case my1 => k_asm); (case my2 => k_asm); (case my3 => k_updF); (case my4 => assumption); (case my5 => exact fit100' (by assumption))); intro h' o' F' N' hd'; (try dsimp only at N'))) | walk1 | (dsimp only; walk1) | (leave1; walk_say "STEP leave1"; try dsimp only) | fail "no step"))); all_goals (try k_fold))
  (rename IsRange _ _ _ _ _ _ _ _ => lR)
  (rename Fr _ _ _ _ => lF')
  (rename News _ _ _ _ => lN')
  refine iter_range (n := (1 + d).toNat) (fun m₀ i m₁ l => TabJ w L pen wa tb oT oF oS oP i m₀ m₁ l)
    rfl lR (range_small (by omega) (by omega) (by omega) (by omega)) (by rw [range_size (by omega)]; congr 1; omega) lF' lN' ⟨oTab, rest, [], [], num, tn, P9, C, hdT, .nil, rfl, ⟨.nil, nofun, nofun⟩, nofun, hn0, by omega, hW, Like.start ⟨rfl, rfl, trivial⟩⟩ ?_ ?_
  · clear hdT P9 hn1 hn0 hW C
    rintro i t m₁ news₁ I oI h tk QT hQT hi ⟨oTab, rest, kvs, es, num, tn, P, C, hdT, hTu, hes, hTb, hlt, hn0, hn1, hW, hL⟩ ho F₁ N₁
    have hi10 : i ≤ 10 := by omega
    have hkl : kvs.length ≤ 100 := by rw [hTu.length]; omega
    have hnum60 : num ≤ 60 := by omega
    have hstep : ∀ st : Int, 1 ≤ st → st ≤ 5 → 0 ≤ num + st ∧ num + st ≤ 3 + 5 * ((i + 1 : Nat) : Int) := fun st h1 h2 => ⟨by omega, by omega⟩
    have F₂ := hL.turn F₁
    simp only [upd] at F₂
    have hmP : (L + 1, oP) ∈ news₁ := (Pre.mk P C).inP
    obtain ⟨ws, ew, hwm, hw1, hw2, hwv⟩ := hW
    clear F₁ lF' lN' hi hn1 hd0 hd1
    try k_fold
    ((repeat' ( (fail_if_success (with_reducible show wpAny _ _ (call (Value.ref 158) _) _ _ _)); (fail_if_success (with_reducible show wpAny _ _ (call (Value.ref 151) _) _ _ _)); (fail_if_success (with_reducible show wpAny _ _ (pyIter (Value.ref _)) _ _ _)); (first | (k_unfold; (try dsimp only)) | (k_end; wrow_close) | ((with_reducible show wpAny _ _ (setItem (Value.ref _) (Value.int _ _) _) _ _ _); (k_here; k_dflt (refine' kda_set (knd := PySem.intKind _ _) ?my1 ?my2 ?my3 ?my4 (intKind_is _ _ _ _) ?my5 ?_; (case my1 => k_asm); (case my2 => k_asm); (case my3 => k_updF); (case my4 => assumption); (case my5 => exact fit100' (by assumption))); intro h' o' F' N' hd'; (try dsimp only at N'))) | walk1 | (dsimp only; walk1) | (leave1; walk_say "STEP leave1"; try dsimp only) | fail "no step"))); all_goals (try k_fold))
    refine' does_use (draw_in w news₁ (cellsL L tb oTab oT oF oS oP rest) [(I, oI)] pen 300 _ (by decide) (by decide) P (List.forall_mem_cons.mpr ⟨ho, List.forall_mem_nil _⟩)) ?k1 ?k2 ?k3 ?k4 ?k5 ?k6 ?k7 ?k8 ?_
    walk_at "MY call"
    rintro v9 _ h9 tk9 ⟨d1, td1, nw1, rfl, hd10, hd11, rfl, P1, off1⟩ F9 N9
    replace N9 : News h₀ L h9 ((I, oI) :: nw1) := N9
    clear hmP P ho
    have hmP : (L + 1, oP) ∈ nw1 := (Pre.mk P1 C).inP
    try k_fold
    ((repeat' ( (fail_if_success (with_reducible show wpAny _ _ (call (Value.ref 158) _) _ _ _)); (fail_if_success (with_reducible show wpAny _ _ (call (Value.ref 151) _) _ _ _)); (fail_if_success (with_reducible show wpAny _ _ (pyIter (Value.ref _)) _ _ _)); (first | (k_unfold; (try dsimp only)) | (k_end; wrow_close) | ((with_reducible show wpAny _ _ (setItem (Value.ref _) (Value.int _ _) _) _ _ _); (k_here; k_dflt (refine' kda_set (knd := PySem.intKind _ _) ?my1 ?my2 ?my3 ?my4 (intKind_is _ _ _ _) ?my5 ?_; (case my1 => k_asm); (case my2 => k_asm); (case my3 => k_updF); (case my4 => assumption); (case my5 => exact fit100' (by assumption))); intro h' o' F' N' hd'; (try dsimp only at N'))) | walk1 | (dsimp only; walk1) | (leave1; walk_say "STEP leave1"; try dsimp only) | fail "no step"))); all_goals (try k_fold))
    (rename News _ _ _ _ => lN')
    obtain ⟨la, ela, -⟩ := led_1 lN'
    subst ela
    (rename (_ ∧ AllLt la _) => ll)
    refine' does_use (pick_in w nw1 (cellsL L tb oTab oT oF oS oP rest) [(la, _), (I, oI)] pen la [.int d1 _, .int 0 _, .int (65536 + (0 + (i : Int) * 1)) _, .int 255 _, .int 256 _] 0 (Nat.zero_lt_succ _) (show 5 ≤ 10 by decide) P1 (List.forall_mem_cons.mpr ⟨allLt_ne ll.2, off1⟩) (.head _)) ?k1 ?k2 ?k3 ?k4 ?k5 ?k6 ?k7 ?k8 ?_
    walk_at "MY call"
    rintro v9 _ h9 tk9 ⟨nw2, hv, rfl, P2, off2⟩ F9 N9
    replace N9 : News h₀ L h9 ((I, oI) :: nw2) := fun p hp => N9 p (.tail _ hp)
    obtain ⟨one, tone, rfl, ho1, ho2⟩ := one_of hd10 hd11 hi10 hv
    have off2' := (List.forall_mem_cons.mp off2).2
    clear hmP P1 off1 off2 hv hd10 hd11 ll
    have hmP : (L + 1, oP) ∈ nw2 := (Pre.mk P2 C).inP
    try k_fold
    ((repeat' ( (fail_if_success (with_reducible show wpAny _ _ (call (Value.ref 158) _) _ _ _)); (fail_if_success (with_reducible show wpAny _ _ (call (Value.ref 151) _) _ _ _)); (fail_if_success (with_reducible show wpAny _ _ (pyIter (Value.ref _)) _ _ _)); (first | (k_unfold; (try dsimp only)) | (k_end; wrow_close) | ((with_reducible show wpAny _ _ (setItem (Value.ref _) (Value.int _ _) _) _ _ _); (k_here; k_dflt (refine' kda_set (knd := PySem.intKind _ _) ?my1 ?my2 ?my3 ?my4 (intKind_is _ _ _ _) ?my5 ?_; (case my1 => k_asm); (case my2 => k_asm); (case my3 => k_updF); (case my4 => assumption); (case my5 => exact fit100' (by assumption))); intro h' o' F' N' hd'; (try dsimp only at N'))) | walk1 | (dsimp only; walk1) | (leave1; walk_say "STEP leave1"; try dsimp only) | fail "no step"))); all_goals (try k_fold))
    refine' does_use (pick_in w nw2 (cellsL L tb oTab oT oF oS oP rest) [(I, oI)] pen wa ws ew hw1 hw2 P2 off2' (List.mem_append_right _ (.tail _ (.tail _ (.tail _ (.tail _ (.tail _ hwm))))))) ?k1 ?k2 ?k3 ?k4 ?k5 ?k6 ?k7 ?k8 ?_
    walk_at "MY call"
    rintro v9 _ h9 tk9 ⟨nw3, hv, rfl, P3, off3⟩ F9 N9
    replace N9 : News h₀ L h9 ((I, oI) :: nw3) := N9
    obtain ⟨way, tway, rfl, hway⟩ := hwv _ hv
    clear hmP P2 off2' hv
    have hmP : (L + 1, oP) ∈ nw3 := (Pre.mk P3 C).inP
    try k_fold
    ((repeat' ( (fail_if_success (with_reducible show wpAny _ _ (call (Value.ref 158) _) _ _ _)); (fail_if_success (with_reducible show wpAny _ _ (call (Value.ref 151) _) _ _ _)); (fail_if_success (with_reducible show wpAny _ _ (pyIter (Value.ref _)) _ _ _)); (first | (k_unfold; (try dsimp only)) | (k_end; wrow_close) | ((with_reducible show wpAny _ _ (setItem (Value.ref _) (Value.int _ _) _) _ _ _); (k_here; k_dflt (refine' kda_set (knd := PySem.intKind _ _) ?my1 ?my2 ?my3 ?my4 (intKind_is _ _ _ _) ?my5 ?_; (case my1 => k_asm); (case my2 => k_asm); (case my3 => k_updF); (case my4 => assumption); (case my5 => exact fit100' (by assumption))); intro h' o' F' N' hd'; (try dsimp only at N'))) | walk1 | (dsimp only; walk1) | (leave1; walk_say "STEP leave1"; try dsimp only) | fail "no step"))); all_goals (try k_fold))
    refine' does_use (draw_in w nw3 (cellsL L tb oTab oT oF oS oP rest) [(I, oI)] pen 70000 _ (by decide) (by decide) P3 off3) ?k1 ?k2 ?k3 ?k4 ?k5 ?k6 ?k7 ?k8 ?_
    walk_at "MY call"
    rintro v9 _ h9 tk9 ⟨d2, td2, nw4, rfl, hd20, hd21, rfl, P4, off4⟩ F9 N9
    replace N9 : News h₀ L h9 ((I, oI) :: nw4) := N9
    clear hmP P3 off3
    have hmP : (L + 1, oP) ∈ nw4 := (Pre.mk P4 C).inP
    try k_fold
    ((repeat' ( (fail_if_success (with_reducible show wpAny _ _ (call (Value.ref 158) _) _ _ _)); (fail_if_success (with_reducible show wpAny _ _ (call (Value.ref 151) _) _ _ _)); (fail_if_success (with_reducible show wpAny _ _ (pyIter (Value.ref _)) _ _ _)); (first | (k_unfold; (try dsimp only)) | (k_end; wrow_close) | ((with_reducible show wpAny _ _ (setItem (Value.ref _) (Value.int _ _) _) _ _ _); (k_here; k_dflt (refine' kda_set (knd := PySem.intKind _ _) ?my1 ?my2 ?my3 ?my4 (intKind_is _ _ _ _) ?my5 ?_; (case my1 => k_asm); (case my2 => k_asm); (case my3 => k_updF); (case my4 => assumption); (case my5 => exact fit100' (by assumption))); intro h' o' F' N' hd'; (try dsimp only at N'))) | walk1 | (dsimp only; walk1) | (leave1; walk_say "STEP leave1"; try dsimp only) | fail "no step"))); all_goals (try k_fold))
    (rename News _ _ _ _ => lN')
    obtain ⟨lb, elb, -⟩ := led_1 lN'
    subst elb
    (rename (_ ∧ AllLt lb _) => ll)
    refine' does_use (pick_in w nw4 (cellsL L tb oTab oT oF oS oP rest) [(lb, _), (I, oI)] pen lb [.int 0 _, .int 0 _, .int d2 _] 0 (Nat.zero_lt_succ _) (show 3 ≤ 10 by decide) P4 (List.forall_mem_cons.mpr ⟨allLt_ne ll.2, off4⟩) (.head _)) ?k1 ?k2 ?k3 ?k4 ?k5 ?k6 ?k7 ?k8 ?_
    walk_at "MY call"
    rintro v9 _ h9 tk9 ⟨nw5, hv, rfl, P5, off5⟩ F9 N9
    obtain ⟨two, ttwo, rfl, ht1, ht2⟩ := two_of hd20 hd21 hv
    have off5' := (List.forall_mem_cons.mp off5).2
    have K5 : Pre L pen nw5 tb oTab oT oF oS oP rest := ⟨P5, C⟩
    have oI5 : ∀ p ∈ nw5, @Ne Nat p.1 I := off5' _ (.head _)
    have N7 := news_cell (news_sub N9 (news' := (I, oI) :: nw5) (fun p hp => .tail _ hp)) (a := tb) (o := oTab) (.tail _ K5.inTab)
    have u1 : ∀ p ∈ offL tb ((I, oI) :: nw5), @Ne Nat p.1 tb := offL_ne
    have vI : (I, oI) ∈ offL tb ((I, oI) :: nw5) := offL_mem.mpr ⟨.head _, fun e => oI5 _ K5.inTab e.symm⟩
    have vK : ∀ p ∈ nw5, @Ne Nat p.1 tb → p ∈ offL tb ((I, oI) :: nw5) := fun p hp hn => offL_mem.mpr ⟨.tail _ hp, hn⟩
    have lT := C.ltT
    have hmP5 : (L + 1, oP) ∈ offL tb ((I, oI) :: nw5) := vK _ K5.inP (by show @Ne Nat _ _; omega)
    have hmT5 : (L + 1 + 1, oT) ∈ offL tb ((I, oI) :: nw5) := vK _ K5.inT (by show @Ne Nat _ _; omega)
    generalize offL tb ((I, oI) :: nw5) = O at *
    clear hmP P4 P5 off4 off5 off5' hv hd20 hd21 ll N9
    try k_fold
    ((repeat' ( (fail_if_success (with_reducible show wpAny _ _ (call (Value.ref 158) _) _ _ _)); (fail_if_success (with_reducible show wpAny _ _ (call (Value.ref 151) _) _ _ _)); (fail_if_success (with_reducible show wpAny _ _ (pyIter (Value.ref _)) _ _ _)); (first | (k_unfold; (try dsimp only)) | (k_end; wrow_close) | ((with_reducible show wpAny _ _ (setItem (Value.ref _) (Value.int _ _) _) _ _ _); (k_here; k_dflt (refine' kda_set (knd := PySem.intKind _ _) ?my1 ?my2 ?my3 ?my4 (intKind_is _ _ _ _) ?my5 ?_; (case my1 => k_asm); (case my2 => k_asm); (case my3 => k_updF); (case my4 => assumption); (case my5 => exact fit100' (by assumption))); intro h' o' F' N' hd'; (try dsimp only at N'))) | walk1 | (dsimp only; walk1) | (leave1; walk_say "STEP leave1"; try dsimp only) | fail "no step"))); all_goals (try k_fold))
    (rename News _ _ _ _ => lN')
    (rename Obj.IsDictOf _ _ (stored kvs num _) => hdT')
    (rename Obj => oTab2)
    obtain ⟨lc, elc, -⟩ := led_1 lN'
    subst elc
    obtain ⟨x, ex, -⟩ := led_2 lN'
    subst ex
    (rename (tb < x ∧ AllLt x _) => lx)
    (rename (x < lc ∧ tb < lc ∧ AllLt lc _) => ll)
    rw [stored_new (tbl_new hTu hlt)] at hdT'
    have hx5 : ∀ p ∈ nw5, @LT.lt Nat _ p.1 x := fun p hp => by
      by_cases hn : @Eq Nat p.1 tb
      · rw [hn]; exact lx.1
      · exact allLt_mem lx.2 p (vK p hp hn)
    obtain ⟨nw6, K6, i6⟩ := K5.setTab oTab2 (x, tupD way one two tway tone ttwo) hx5
    have hIx : @LT.lt Nat _ I x := allLt_mem lx.2 _ vI
    have o6c : ∀ p ∈ nw6, @Ne Nat p.1 lc := fun p hp => by
      rcases i6 p hp with e | e | ⟨h, hn⟩
      · rw [e]; exact Nat.ne_of_lt ll.2.1
      · rw [e]; exact Nat.ne_of_lt ll.1
      · exact Nat.ne_of_lt (allLt_mem ll.2.2 p (vK p h hn))
    have o6I : ∀ p ∈ nw6, @Ne Nat p.1 I := fun p hp => by
      rcases i6 p hp with e | e | ⟨h, hn⟩
      · rw [e]; exact oI5 (tb, oTab) K5.inTab
      · rw [e]; exact Nat.ne_of_gt hIx
      · exact oI5 p h
    refine' does_use (pick_in w nw6 (cellsL L tb oTab2 oT oF oS oP ((x, tupD way one two tway tone ttwo) :: rest)) [(lc, _), (I, oI)] pen lc [.int 1 _, .int 1 _, .int 5 _] 0 (Nat.zero_lt_succ _) (show 3 ≤ 10 by decide) K6.isPen (List.forall_mem_cons.mpr ⟨o6c, List.forall_mem_cons.mpr ⟨o6I, List.forall_mem_nil _⟩⟩) (.head _)) ?k1 ?k2 ?k3 ?k4 ?k5 ?k6 ?k7 ?k8 ?_
    case k4 =>
      refine news_sub lN' fun p hp => ?_
      rcases List.mem_cons.mp hp with e | hp
      · rw [e]; exact .head _
      rcases List.mem_cons.mp hp with e | hp
      · rw [e]; exact .tail _ (.tail _ (.tail _ vI))
      rcases i6 p hp with e | e | ⟨h, hn⟩
      · rw [e]; exact .tail _ (.tail _ (.head _))
      · rw [e]; exact .tail _ (.head _)
      · exact .tail _ (.tail _ (.tail _ (vK p h hn)))
    case k1 => k_asm
    case k2 => k_asm
    case k3 => k_asm
    case k5 => k_asm
    case k6 => first | exact rfl | assumption
    case k7 => ktr_room
    case k8 => ktr_units
    rintro v9 _ h9 tk9 ⟨nw7, hv, rfl, P7, off7⟩ F9 N9
    obtain ⟨st, tst, rfl, hs1, hs2⟩ := step_of hv
    have hs := hstep st hs1 hs2
    have C6 := K6.cells
    have o7 := (List.forall_mem_cons.mp (List.forall_mem_cons.mp off7).2).1
    clear lN' K6 i6 o6c o6I off7 lx ll hIx
    try k_fold
    ((repeat' ( (fail_if_success (with_reducible show wpAny _ _ (call (Value.ref 158) _) _ _ _)); (fail_if_success (with_reducible show wpAny _ _ (call (Value.ref 151) _) _ _ _)); (fail_if_success (with_reducible show wpAny _ _ (pyIter (Value.ref _)) _ _ _)); (first | (k_unfold; (try dsimp only)) | (k_end; wrow_close) | ((with_reducible show wpAny _ _ (setItem (Value.ref _) (Value.int _ _) _) _ _ _); (k_here; k_dflt (refine' kda_set (knd := PySem.intKind _ _) ?my1 ?my2 ?my3 ?my4 (intKind_is _ _ _ _) ?my5 ?_; (case my1 => k_asm); (case my2 => k_asm); (case my3 => k_updF); (case my4 => assumption); (case my5 => exact fit100' (by assumption))); intro h' o' F' N' hd'; (try dsimp only at N'))) | walk1 | (dsimp only; walk1) | (leave1; walk_say "STEP leave1"; try dsimp only) | fail "no step"))); all_goals (try k_fold))
    (rename Fr _ _ _ _ => lF')
    (rename News _ _ _ _ => lN')
    refine hQT _ _ <| TurnEnd.next lF' (news_sub lN' (news' := (I, oI) :: nw7) (fun p hp => .tail _ hp)) (fun p hp => nomatch hp) o7 ⟨oTab2, (x, tupD way one two tway tone ttwo) :: rest, _, es ++ [⟨num, way, one, two⟩], num + st, _, P7, C6, hdT', ?g3, ?g4, ?g5, ?g6, hs.1, hs.2, ⟨ws, ew, .tail _ hwm, hw1, hw2, hwv⟩, ⟨rfl, rfl, trivial⟩, ?g7⟩
    case g3 => exact TupsAt.snoc (x := x) (e := ⟨num, way, one, two⟩) (hTu.mono fun p hp => .tail _ hp) ⟨tway, tone, ttwo, .head _⟩
    case g4 => rw [List.length_append, hes]; rfl
    case g5 => exact Tbl.snoc (e := ⟨num, way, one, two⟩) hTb hlt ⟨hn0, hnum60⟩ ⟨hway, ho1, ho2, ht1, ht2⟩
    case g6 =>
      intro e he
      rcases List.mem_append.mp he with he | he
      · have := hlt e he
        omega
      · rw [List.mem_singleton.mp he]
        show num < num + st
        omega
    case g7 => intro z hx hz; simp only [Off] at hz; simp [hx, hz]
  · rintro h tk m' news' ⟨oTab, rest, kvs, es, num, tn, P, C, hdT, hTu, hes, hTb, hlt, hn0, hn1, hW, hL⟩ F₁ N₁
    dsimp only
    exact next _ _ ⟨m', tb, oTab, oT, oF, oS, oP, rest, _, kvs, es, F₁, N₁, P, C, hdT, lo, hTu, hTb, by omega, by omega⟩
end
theorem st2 : ∀ (w : World) (h₀ : Heap) (L fa pen : Addr) (ccd : Value) (mean : ExcName → Option Value) (mg mb : Str → Option Value) (Q : Flow → Shared → Prop) (E : Value → Shared → Prop) (s : Shared)
    (B : Below callerA h₀ [] h₀) (X : (hd.heap_1 w.params).In h₀) (T : Top hview (looseW hview [Str.ofString "PaperError"]) mean mg mb h₀)
    (hE : PassesOwn (model PySem.Challenge.rw_og0136_01.row.prog w) (callerA.deeper (lawE L fa ccd)) (lawE L fa ccd) E) (I3 : Inv3 w h₀ L pen s.heap) (next : ∀ h tk, Inv4 w h₀ L pen h → wpAny (model PySem.Challenge.rw_og0136_01.row.prog w) (callerA.deeper (lawE L fa ccd)) (lawT 4 L fa ccd) Q E { s with heap := h, toks := tk }),
    wpAny (model PySem.Challenge.rw_og0136_01.row.prog w) (callerA.deeper (lawE L fa ccd)) (lawT 3 L fa ccd) Q E s := by
  intro w h₀ L fa pen ccd mean mg mb Q E s B X T hE I3 next
  obtain ⟨m, wa, tb, oTab, oT, oF, oS, oP, rest, news, num, tn, F, N, P, C, hdT, lo, hW, hn0, hn1⟩ := I3
  obtain ⟨hp, gs, dr, tks, os⟩ := s
  exact (Classical.byContradiction fun hn => @Classical.epsilon_spec _ (fun x : (World) × (Heap) × (Addr) × (Addr) × (Addr) × (Value) × (ExcName → Option Value) × (Str → Option Value) × (Str → Option Value) × (Flow → Shared → Prop) × (Value → Shared → Prop) × (Heap) × (Array GenState) × (Drawn) × (Nat) × (OsState) × (Str → Option Value) × (Addr) × (Addr) × (Obj) × (Obj) × (Obj) × (Obj) × (Obj) × (Led) × (Led) × (Int) × (Tok) => ¬ Zst2.G (x.1) (x.2.1) (x.2.2.1) (x.2.2.2.1) (x.2.2.2.2.1) (x.2.2.2.2.2.1) (x.2.2.2.2.2.2.1) (x.2.2.2.2.2.2.2.1) (x.2.2.2.2.2.2.2.2.1) (x.2.2.2.2.2.2.2.2.2.1) (x.2.2.2.2.2.2.2.2.2.2.1) (x.2.2.2.2.2.2.2.2.2.2.2.1) (x.2.2.2.2.2.2.2.2.2.2.2.2.1) (x.2.2.2.2.2.2.2.2.2.2.2.2.2.1) (x.2.2.2.2.2.2.2.2.2.2.2.2.2.2.1) (x.2.2.2.2.2.2.2.2.2.2.2.2.2.2.2.1) (x.2.2.2.2.2.2.2.2.2.2.2.2.2.2.2.2.1) (x.2.2.2.2.2.2.2.2.2.2.2.2.2.2.2.2.2.1) (x.2.2.2.2.2.2.2.2.2.2.2.2.2.2.2.2.2.2.1) (x.2.2.2.2.2.2.2.2.2.2.2.2.2.2.2.2.2.2.2.1) (x.2.2.2.2.2.2.2.2.2.2.2.2.2.2.2.2.2.2.2.2.1) (x.2.2.2.2.2.2.2.2.2.2.2.2.2.2.2.2.2.2.2.2.2.1) (x.2.2.2.2.2.2.2.2.2.2.2.2.2.2.2.2.2.2.2.2.2.2.1) (x.2.2.2.2.2.2.2.2.2.2.2.2.2.2.2.2.2.2.2.2.2.2.2.1) (x.2.2.2.2.2.2.2.2.2.2.2.2.2.2.2.2.2.2.2.2.2.2.2.2.1) (x.2.2.2.2.2.2.2.2.2.2.2.2.2.2.2.2.2.2.2.2.2.2.2.2.2.1) (x.2.2.2.2.2.2.2.2.2.2.2.2.2.2.2.2.2.2.2.2.2.2.2.2.2.2.1) (x.2.2.2.2.2.2.2.2.2.2.2.2.2.2.2.2.2.2.2.2.2.2.2.2.2.2.2)) ⟨(w, h₀, L, fa, pen, ccd, mean, mg, mb, Q, E, hp, gs, dr, tks, os, m, wa, tb, oTab, oT, oF, oS, oP, rest, news, num, tn), hn⟩ Zst2.main) B X T hE F N P C hdT lo hW hn0 hn1 next
end Mine
end
section
namespace Mine
section
variable {w : World} {L pen tb : Addr} {news : Led} {oTab oT oF oS oP : Obj} {rest : Led} {kvs : List (Int × Value)} {es : List Ent}
theorem Core.more2 (K : Core w L pen news tb oTab oT oF oS oP rest kvs es) (a b : Addr × Obj) (ha : ∀ p ∈ news, @LT.lt Nat _ p.1 a.1) (hb : ∀ p ∈ news, @LT.lt Nat _ p.1 b.1) (hab : @LT.lt Nat _ a.1 b.1) :
    ∃ news', Core w L pen news' tb oTab oT oF oS oP (b :: a :: rest) kvs es ∧ ∀ p ∈ news', p = b ∨ p = a ∨ p ∈ news := by
  obtain ⟨n1, K1, i1, -⟩ := K.more a ha
  obtain ⟨n2, K2, i2, -⟩ := K1.more b fun p hp => by
    rcases List.mem_cons.mp (i1 p hp) with e | h
    · rw [e]; exact hab
    · exact hb p h
  refine ⟨n2, K2, fun p hp => ?_⟩
  rcases List.mem_cons.mp (i2 p hp) with e | h
  · exact .inl e
  · exact .inr (List.mem_cons.mp (i1 p h))
theorem Core.more3 (K : Core w L pen news tb oTab oT oF oS oP rest kvs es) (a b c : Addr × Obj) (ha : ∀ p ∈ news, @LT.lt Nat _ p.1 a.1) (hb : ∀ p ∈ news, @LT.lt Nat _ p.1 b.1) (hc : ∀ p ∈ news, @LT.lt Nat _ p.1 c.1) (hab : @LT.lt Nat _ a.1 b.1) (hac : @LT.lt Nat _ a.1 c.1) (hbc : @LT.lt Nat _ b.1 c.1) :
    ∃ news', Core w L pen news' tb oTab oT oF oS oP (c :: b :: a :: rest) kvs es ∧ ∀ p ∈ news', p = c ∨ p = b ∨ p = a ∨ p ∈ news := by
  obtain ⟨n2, K2, i2⟩ := K.more2 a b ha hb hab
  obtain ⟨n3, K3, i3, -⟩ := K2.more c fun p hp => by
    rcases i2 p hp with e | e | h
    · rw [e]; exact hbc
    · rw [e]; exact hac
    · exact hc p h
  refine ⟨n3, K3, fun p hp => ?_⟩
  rcases List.mem_cons.mp (i3 p hp) with e | h
  · exact .inl e
  · exact .inr (i2 p h)
/-- another table in the table's cell -/
theorem Core.swap (K : Core w L pen news tb oTab oT oF oS oP rest kvs es) {D2 : Addr} {oD2 oT2 : Obj} {kvs2 : List (Int × Value)} {es2 : List Ent} (hT : oT2.data = .cell (some (.ref D2))) (hd : Obj.IsDictOf (PySem.intKind prg w) oD2 kvs2) (lo : (D2 == sysModules) = false) (lt : ∀ p ∈ news, @LT.lt Nat _ p.1 D2)
    (hTu : TupsAt rest kvs2 es2) (hB : Tbl es2) (h0 : 0 < es2.length) (h6 : es2.length ≤ 6) :
    ∃ news', Core w L pen news' D2 oD2 oT2 oF oS oP rest kvs2 es2 ∧ ∀ p ∈ news', p = (D2, oD2) ∨ p = (L + 1 + 1, oT2) ∨ (p ∈ news ∧ @Ne Nat p.1 (L + 1 + 1)) := by
  have c3 := lt _ K.inF
  have c4 := lt _ K.inS
  have c5 := lt _ K.inP
  have c2 := lt _ K.inT
  have c0 : ∀ p ∈ rest, @LT.lt Nat _ p.1 D2 := fun p hp => lt p (K.inRest p hp)
  obtain ⟨⟨cl, k, tk, r, tr, vs, ns, n, rfl, hI, hl, hne, hr1, hr2⟩, C, -, -, -, -, -, -⟩ := K
  have c6 := lt _ (.head _)
  have c7 := lt _ (.tail _ (.head _))
  have l2 := C.ltP
  have far := C.far
  have w2 : @Ne Nat (L + 1 + 1) cl := hr2 (L + 1 + 1, oT) (.tail _ (.head _))
  dsimp only at c2 c3 c4 c5 c6 c7
  refine ⟨_, ⟨⟨cl, k, tk, r, tr, vs, ns, n, rfl, hI, hl, hne, ?a, ?b⟩, ⟨C.far, fun p hp => Nat.ne_of_lt (c0 p hp), ?c, C.ltP, C.cP, hT, C.cF, C.cS⟩, hd, lo, hTu, hB, h0, h6⟩, ?e⟩
  case a =>
    simp only [cellsL, List.forall_mem_cons] at hr1 ⊢
    exact ⟨Nat.ne_of_gt c6, hr1.2⟩
  case b =>
    simp only [cellsL, List.forall_mem_cons] at hr2 ⊢
    exact ⟨Nat.ne_of_gt c7, hr2.2⟩
  case c => exact c4
  case e =>
    simp only [cellsL, List.forall_mem_cons]
    refine ⟨.inr (.inr ⟨.head _, ?_⟩), .inr (.inr ⟨.tail _ (.head _), ?_⟩), .inl trivial, .inr (.inl trivial), .inr (.inr ⟨.tail _ (.tail _ (.tail _ (.tail _ (.head _)))), ?_⟩), .inr (.inr ⟨.tail _ (.tail _ (.tail _ (.tail _ (.tail _ (.head _))))), ?_⟩), .inr (.inr ⟨.tail _ (.tail _ (.tail _ (.tail _ (.tail _ (.tail _ (.head _)))))), ?_⟩), fun p hp => .inr (.inr ⟨.tail _ (.tail _ (.tail _ (.tail _ (.tail _ (.tail _ (.tail _ hp)))))), ?_⟩)⟩
    · show @Ne Nat _ _; omega
    · show @Ne Nat _ _; omega
    · show @Ne Nat _ _; omega
    · show @Ne Nat _ _; omega
    · show @Ne Nat _ _; omega
    · have := far p hp; omega
end
/-- between two elements of the entries' comprehension -/
inductive EntJ (w : World) (L pen tb : Addr) (oTab oT oF oS oP : Obj) (rest : Led) (kvs : List (Int × Value)) (es : List Ent) (i : Nat) (ys : List Value) (nw : Led) : Prop
  | mk (rest' : Led) (K : Core w L pen nw tb oTab oT oF oS oP rest' kvs es) (sub : ∀ p ∈ rest, p ∈ rest') (h : PairsAt (EntAt w) rest' ys (es.take i)) : EntJ w L pen tb oTab oT oF oS oP rest kvs es i ys nw
inductive TupJ (w : World) (L pen tb : Addr) (oTab oT oF oS oP : Obj) (rest : Led) (kvs : List (Int × Value)) (es : List Ent) (i : Nat) (ys : List Value) (nw : Led) : Prop
  | mk (rest' : Led) (K : Core w L pen nw tb oTab oT oF oS oP rest' kvs es) (sub : ∀ p ∈ rest, p ∈ rest') (h : PairsAt TupAt rest' ys ((es.take i).map fun e => { e with two := 0 })) : TupJ w L pen tb oTab oT oF oS oP rest kvs es i ys nw
end Mine
end
section
theorem Mine.offL3 : True := by w_top off; trivial
namespace Mine
noncomputable def Zst3.G (w : World) (h₀ : Heap) (L : Addr) (fa : Addr) (pen : Addr) (ccd : Value) (mean : ExcName → Option Value) (mg : Str → Option Value) (mb : Str → Option Value) (Q : Flow → Shared → Prop) (E : Value → Shared → Prop) (hp : Heap) (gs : Array GenState) (dr : Drawn) (tks : Nat) (os : OsState) (m : Str → Option Value) (tb : Addr) (oTab : Obj) (oT : Obj) (oF : Obj) (oS : Obj) (oP : Obj) (rest : Led) (news : Led) (kvs : List (Int × Value)) (es : List Ent) : Prop :=
  ∀ (B : Below callerA h₀ [] h₀), ∀ (X : (hd.heap_1 w.params).In h₀), ∀ (T : Top hview (looseW hview [Str.ofString "PaperError"]) mean mg mb h₀), ∀ (F : Fr h₀ L hp m), ∀ (N : News h₀ L hp news), ∀ (P : PenIs news pen (cellsL L tb oTab oT oF oS oP rest)), ∀ (C : Cells L pen tb oT oF oS oP rest), ∀ (hdT : Obj.IsDictOf (PySem.intKind prg w) oTab kvs), ∀ (lo : (tb == sysModules) = false), ∀ (hTu : TupsAt rest kvs es), ∀ (hTb : Tbl es), ∀ (hes0 : 0 < es.length), ∀ (hes : es.length ≤ 6), ∀ (next : ∀ h tk, Inv4 w h₀ L pen h → wpAny (model PySem.Challenge.rw_og0136_01.row.prog w) (callerA.deeper (lawE L fa ccd)) (lawT 5 L fa ccd) Q E (⟨h, gs, dr, tk, os⟩ : Shared)), wpAny (model PySem.Challenge.rw_og0136_01.row.prog w) (callerA.deeper (lawE L fa ccd)) (lawT 4 L fa ccd) Q E ⟨hp, gs, dr, tks, os⟩
noncomputable def Zst3.c : (World) × (Heap) × (Addr) × (Addr) × (Addr) × (Value) × (ExcName → Option Value) × (Str → Option Value) × (Str → Option Value) × (Flow → Shared → Prop) × (Value → Shared → Prop) × (Heap) × (Array GenState) × (Drawn) × (Nat) × (OsState) × (Str → Option Value) × (Addr) × (Obj) × (Obj) × (Obj) × (Obj) × (Obj) × (Led) × (Led) × (List (Int × Value)) × (List Ent) :=
  @Classical.epsilon _ ⟨((aWorld 0 : World), (default : Heap), (default : Addr), (default : Addr), (default : Addr), (default : Value), (fun _ => none : ExcName → Option Value), (fun _ => none : Str → Option Value), (fun _ => none : Str → Option Value), (fun _ _ => True : Flow → Shared → Prop), (fun _ _ => True : Value → Shared → Prop), (default : Heap), (#[] : Array GenState), ({} : Drawn), (default : Nat), ({} : OsState), (fun _ => none : Str → Option Value), (default : Addr), (default : Obj), (default : Obj), (default : Obj), (default : Obj), (default : Obj), (default : Led), (default : Led), (default : List (Int × Value)), (default : List Ent))⟩ fun x => ¬ Zst3.G (x.1) (x.2.1) (x.2.2.1) (x.2.2.2.1) (x.2.2.2.2.1) (x.2.2.2.2.2.1) (x.2.2.2.2.2.2.1) (x.2.2.2.2.2.2.2.1) (x.2.2.2.2.2.2.2.2.1) (x.2.2.2.2.2.2.2.2.2.1) (x.2.2.2.2.2.2.2.2.2.2.1) (x.2.2.2.2.2.2.2.2.2.2.2.1) (x.2.2.2.2.2.2.2.2.2.2.2.2.1) (x.2.2.2.2.2.2.2.2.2.2.2.2.2.1) (x.2.2.2.2.2.2.2.2.2.2.2.2.2.2.1) (x.2.2.2.2.2.2.2.2.2.2.2.2.2.2.2.1) (x.2.2.2.2.2.2.2.2.2.2.2.2.2.2.2.2.1) (x.2.2.2.2.2.2.2.2.2.2.2.2.2.2.2.2.2.1) (x.2.2.2.2.2.2.2.2.2.2.2.2.2.2.2.2.2.2.1) (x.2.2.2.2.2.2.2.2.2.2.2.2.2.2.2.2.2.2.2.1) (x.2.2.2.2.2.2.2.2.2.2.2.2.2.2.2.2.2.2.2.2.1) (x.2.2.2.2.2.2.2.2.2.2.2.2.2.2.2.2.2.2.2.2.2.1) (x.2.2.2.2.2.2.2.2.2.2.2.2.2.2.2.2.2.2.2.2.2.2.1) (x.2.2.2.2.2.2.2.2.2.2.2.2.2.2.2.2.2.2.2.2.2.2.2.1) (x.2.2.2.2.2.2.2.2.2.2.2.2.2.2.2.2.2.2.2.2.2.2.2.2.1) (x.2.2.2.2.2.2.2.2.2.2.2.2.2.2.2.2.2.2.2.2.2.2.2.2.2.1) (x.2.2.2.2.2.2.2.2.2.2.2.2.2.2.2.2.2.2.2.2.2.2.2.2.2.2)
noncomputable def Zst3.V.w : World := Zst3.c.1
noncomputable def Zst3.V.h₀ : Heap := Zst3.c.2.1
noncomputable def Zst3.V.L : Addr := Zst3.c.2.2.1
noncomputable def Zst3.V.fa : Addr := Zst3.c.2.2.2.1
noncomputable def Zst3.V.pen : Addr := Zst3.c.2.2.2.2.1
noncomputable def Zst3.V.ccd : Value := Zst3.c.2.2.2.2.2.1
noncomputable def Zst3.V.mean : ExcName → Option Value := Zst3.c.2.2.2.2.2.2.1
noncomputable def Zst3.V.mg : Str → Option Value := Zst3.c.2.2.2.2.2.2.2.1
noncomputable def Zst3.V.mb : Str → Option Value := Zst3.c.2.2.2.2.2.2.2.2.1
noncomputable def Zst3.V.Q : Flow → Shared → Prop := Zst3.c.2.2.2.2.2.2.2.2.2.1
noncomputable def Zst3.V.E : Value → Shared → Prop := Zst3.c.2.2.2.2.2.2.2.2.2.2.1
noncomputable def Zst3.V.hp : Heap := Zst3.c.2.2.2.2.2.2.2.2.2.2.2.1
noncomputable def Zst3.V.gs : Array GenState := Zst3.c.2.2.2.2.2.2.2.2.2.2.2.2.1
noncomputable def Zst3.V.dr : Drawn := Zst3.c.2.2.2.2.2.2.2.2.2.2.2.2.2.1
noncomputable def Zst3.V.tks : Nat := Zst3.c.2.2.2.2.2.2.2.2.2.2.2.2.2.2.1
noncomputable def Zst3.V.os : OsState := Zst3.c.2.2.2.2.2.2.2.2.2.2.2.2.2.2.2.1
noncomputable def Zst3.V.m : Str → Option Value := Zst3.c.2.2.2.2.2.2.2.2.2.2.2.2.2.2.2.2.1
noncomputable def Zst3.V.tb : Addr := Zst3.c.2.2.2.2.2.2.2.2.2.2.2.2.2.2.2.2.2.1
noncomputable def Zst3.V.oTab : Obj := Zst3.c.2.2.2.2.2.2.2.2.2.2.2.2.2.2.2.2.2.2.1
noncomputable def Zst3.V.oT : Obj := Zst3.c.2.2.2.2.2.2.2.2.2.2.2.2.2.2.2.2.2.2.2.1
noncomputable def Zst3.V.oF : Obj := Zst3.c.2.2.2.2.2.2.2.2.2.2.2.2.2.2.2.2.2.2.2.2.1
noncomputable def Zst3.V.oS : Obj := Zst3.c.2.2.2.2.2.2.2.2.2.2.2.2.2.2.2.2.2.2.2.2.2.1
noncomputable def Zst3.V.oP : Obj := Zst3.c.2.2.2.2.2.2.2.2.2.2.2.2.2.2.2.2.2.2.2.2.2.2.1
noncomputable def Zst3.V.rest : Led := Zst3.c.2.2.2.2.2.2.2.2.2.2.2.2.2.2.2.2.2.2.2.2.2.2.2.1
noncomputable def Zst3.V.news : Led := Zst3.c.2.2.2.2.2.2.2.2.2.2.2.2.2.2.2.2.2.2.2.2.2.2.2.2.1
noncomputable def Zst3.V.kvs : List (Int × Value) := Zst3.c.2.2.2.2.2.2.2.2.2.2.2.2.2.2.2.2.2.2.2.2.2.2.2.2.2.1
noncomputable def Zst3.V.es : List Ent := Zst3.c.2.2.2.2.2.2.2.2.2.2.2.2.2.2.2.2.2.2.2.2.2.2.2.2.2.2
section
open Zst3.V
set_option maxHeartbeats 8000000 in
theorem Zst3.main : Zst3.G Zst3.V.w Zst3.V.h₀ Zst3.V.L Zst3.V.fa Zst3.V.pen Zst3.V.ccd Zst3.V.mean Zst3.V.mg Zst3.V.mb Zst3.V.Q Zst3.V.E Zst3.V.hp Zst3.V.gs Zst3.V.dr Zst3.V.tks Zst3.V.os Zst3.V.m Zst3.V.tb Zst3.V.oTab Zst3.V.oT Zst3.V.oF Zst3.V.oS Zst3.V.oP Zst3.V.rest Zst3.V.news Zst3.V.kvs Zst3.V.es := by
  unfold Zst3.G
  k_fill
  intro B X T F N P C hdT lo hTu hTb hes0 hes next
  have K : Core w L pen news tb oTab oT oF oS oP rest kvs es := ⟨P, C, hdT, lo, hTu, hTb, hes0, hes⟩
  have dP := C.cP
  have dT := C.cT
  have hmP := K.inP
  clear P
  try dsimp only at F N
  dsimp only [lawE, lawT, lawB, List.drop]
  try k_fold
  ((repeat' ( (fail_if_success (with_reducible show wpAny _ _ (call (Value.ref 158) _) _ _ _)); (fail_if_success (with_reducible show wpAny _ _ (call (Value.ref 151) _) _ _ _)); (fail_if_success (with_reducible show wpAny _ _ (execs (Stmt.Assign [PySem.Expr.Name (Str.ofString "entries") _] _ _ :: _) _) _ _ _)); (fail_if_success (with_reducible show wpAny _ _ (eval (PySem.Expr.ListComp _ _ _ _) _) _ _ _)); (fail_if_success (with_reducible show wpAny _ _ (call (Value.type "dict") _) _ _ _)); (fail_if_success (with_reducible show wpAny _ _ (subscriptTail _ _ (Value.ref _) (Value.int 0 _)) _ _ _)); (fail_if_success (with_reducible show wpAny _ _ (subscriptTail _ _ (Value.ref _) (Value.int 1 _)) _ _ _)); (fail_if_success (with_reducible show wpAny _ _ (pyIter (Value.ref _)) _ _ _)); (first | (k_unfold; (try dsimp only)) | (k_end; wrow_close) | ((with_reducible show wpAny _ _ (setItem (Value.ref _) (Value.int _ _) _) _ _ _); (k_here; k_dflt (refine' kda_set (knd := PySem.intKind _ _) ?my1 ?my2 ?my3 ?my4 (intKind_is _ _ _ _) ?my5 ?_; (case my1 => k_asm); (case my2 => k_asm); (case my3 => k_updF); (case my4 => assumption); (case my5 => exact fit100' (by assumption))); intro h' o' F' N' hd'; (try dsimp only at N'))) | walk1 | (dsimp only; walk1) | (leave1; walk_say "STEP leave1"; try dsimp only) | fail "no step"))); all_goals (try k_fold))
  refine' does_use (draw_does w news (cellsL L tb oTab oT oF oS oP rest) pen 2 _ (by decide) (by decide) K.isPen) ?k1 ?k2 ?k3 ?k4 ?k5 ?k6 ?k7 ?k8 ?_
  walk_at "MY call"
  rintro v9 news9 h9 tk9 ⟨d, td, rfl, hd0, hd1, P9⟩ F9 N9
  have K9 := K.drawn P9
  have hmT := K9.inTab
  have hmC := K9.inT
  have hkl : kvs.length = es.length := hTu.length
  clear P9
  try k_fold
  ((repeat' ( (fail_if_success (with_reducible show wpAny _ _ (call (Value.ref 158) _) _ _ _)); (fail_if_success (with_reducible show wpAny _ _ (call (Value.ref 151) _) _ _ _)); (fail_if_success (with_reducible show wpAny _ _ (execs (Stmt.Assign [PySem.Expr.Name (Str.ofString "entries") _] _ _ :: _) _) _ _ _)); (fail_if_success (with_reducible show wpAny _ _ (eval (PySem.Expr.ListComp _ _ _ _) _) _ _ _)); (fail_if_success (with_reducible show wpAny _ _ (call (Value.type "dict") _) _ _ _)); (fail_if_success (with_reducible show wpAny _ _ (subscriptTail _ _ (Value.ref _) (Value.int 0 _)) _ _ _)); (fail_if_success (with_reducible show wpAny _ _ (subscriptTail _ _ (Value.ref _) (Value.int 1 _)) _ _ _)); (fail_if_success (with_reducible show wpAny _ _ (pyIter (Value.ref _)) _ _ _)); (first | (k_unfold; (try dsimp only)) | (k_end; wrow_close) | ((with_reducible show wpAny _ _ (setItem (Value.ref _) (Value.int _ _) _) _ _ _); (k_here; k_dflt (refine' kda_set (knd := PySem.intKind _ _) ?my1 ?my2 ?my3 ?my4 (intKind_is _ _ _ _) ?my5 ?_; (case my1 => k_asm); (case my2 => k_asm); (case my3 => k_updF); (case my4 => assumption); (case my5 => exact fit100' (by assumption))); intro h' o' F' N' hd'; (try dsimp only at N'))) | walk1 | (dsimp only; walk1) | (leave1; walk_say "STEP leave1"; try dsimp only) | fail "no step"))); all_goals (try k_fold))
  · refine comp_dict (knd := PySem.intKind prg w) (h₀ := h₀) (L := L) (m := m) (by with_unfolding_all rfl) (by decide) rfl (by decide) rfl rfl ?_
    ((repeat' ( (fail_if_success (with_reducible show wpAny _ _ (call (Value.ref 158) _) _ _ _)); (fail_if_success (with_reducible show wpAny _ _ (call (Value.ref 151) _) _ _ _)); (fail_if_success (with_reducible show wpAny _ _ (execs (Stmt.Assign [PySem.Expr.Name (Str.ofString "entries") _] _ _ :: _) _) _ _ _)); (fail_if_success (with_reducible show wpAny _ _ (eval (PySem.Expr.ListComp _ _ _ _) _) _ _ _)); (fail_if_success (with_reducible show wpAny _ _ (call (Value.type "dict") _) _ _ _)); (fail_if_success (with_reducible show wpAny _ _ (subscriptTail _ _ (Value.ref _) (Value.int 0 _)) _ _ _)); (fail_if_success (with_reducible show wpAny _ _ (subscriptTail _ _ (Value.ref _) (Value.int 1 _)) _ _ _)); (fail_if_success (with_reducible show wpAny _ _ (pyIter (Value.ref _)) _ _ _)); (first | (k_unfold; (try dsimp only)) | (k_end; wrow_close) | ((with_reducible show wpAny _ _ (setItem (Value.ref _) (Value.int _ _) _) _ _ _); (k_here; k_dflt (refine' kda_set (knd := PySem.intKind _ _) ?my1 ?my2 ?my3 ?my4 (intKind_is _ _ _ _) ?my5 ?_; (case my1 => k_asm); (case my2 => k_asm); (case my3 => k_updF); (case my4 => assumption); (case my5 => exact fit100' (by assumption))); intro h' o' F' N' hd'; (try dsimp only at N'))) | walk1 | (dsimp only; walk1) | (leave1; walk_say "STEP leave1"; try dsimp only) | fail "no step"))); all_goals (try k_fold))
    refine ⟨tb, oTab, kvs, _, rfl, F9, N9, hmT, hdT, lo, by rw [sizeLine_eq]; omega, fun g => rest_of_inv (TupJ w L pen tb oTab oT oF oS oP rest kvs es) kvs.length ?hS ?hF ?turn kvs.length 0 [] _ (Nat.zero_add _) ⟨rest, K9, fun _ h => h, .nil⟩⟩
    case hS => rintro i ys nw ⟨rest', K', -, -⟩; exact K'.inTab
    case turn =>
      rintro i v ys nw I oI Cc oC D m₂ h tk E' QE hQE hi ⟨key, y, hky, hv⟩ ⟨rest', K', sub, hPs⟩ hoC hx F₁ N₁ oI1 oC1 oD1 n1 n2 n3
      obtain ⟨e, x, he, rfl, rfl, a1, a2, a3, hx3⟩ := hTu.get hky
      obtain ⟨tv, rfl⟩ := Value.isInt_shape hv
      have hat := valueAt_of_get (keysNodup_of_isDictOf hdT) hky
      have hx4 := K'.inRest _ (sub _ hx3)
      have hmT' := K'.inTab
      have hmC' := K'.inT
      unfold tupD at hx4
      clear F9 N9
      try k_fold
      clear hx3
      ((repeat' ( (fail_if_success (with_reducible show wpAny _ _ (call (Value.ref 158) _) _ _ _)); (fail_if_success (with_reducible show wpAny _ _ (call (Value.ref 151) _) _ _ _)); (fail_if_success (with_reducible show wpAny _ _ (execs (Stmt.Assign [PySem.Expr.Name (Str.ofString "entries") _] _ _ :: _) _) _ _ _)); (fail_if_success (with_reducible show wpAny _ _ (eval (PySem.Expr.ListComp _ _ _ _) _) _ _ _)); (fail_if_success (with_reducible show wpAny _ _ (call (Value.type "dict") _) _ _ _)); (fail_if_success (with_reducible show wpAny _ _ (subscriptTail _ _ (Value.ref _) (Value.int 0 _)) _ _ _)); (fail_if_success (with_reducible show wpAny _ _ (subscriptTail _ _ (Value.ref _) (Value.int 1 _)) _ _ _)); (fail_if_success (with_reducible show wpAny _ _ (pyIter (Value.ref _)) _ _ _)); (first | (k_unfold; (try dsimp only)) | (k_end; wrow_close) | ((with_reducible show wpAny _ _ (setItem (Value.ref _) (Value.int _ _) _) _ _ _); (k_here; k_dflt (refine' kda_set (knd := PySem.intKind _ _) ?my1 ?my2 ?my3 ?my4 (intKind_is _ _ _ _) ?my5 ?_; (case my1 => k_asm); (case my2 => k_asm); (case my3 => k_updF); (case my4 => assumption); (case my5 => exact fit100' (by assumption))); intro h' o' F' N' hd'; (try dsimp only at N'))) | walk1 | (dsimp only; walk1) | (leave1; walk_say "STEP leave1"; try dsimp only) | fail "no step"))); all_goals (try k_fold))
      refine item_tup (by k_asm) (n := 0) (its := [.str e.way a1, .int e.one a2, .int e.two a3]) (by walk_at "MY in") (by decide) (by decide) rfl ?_ (by with_unfolding_all rfl)
      try k_fold
      ((repeat' ( (fail_if_success (with_reducible show wpAny _ _ (call (Value.ref 158) _) _ _ _)); (fail_if_success (with_reducible show wpAny _ _ (call (Value.ref 151) _) _ _ _)); (fail_if_success (with_reducible show wpAny _ _ (execs (Stmt.Assign [PySem.Expr.Name (Str.ofString "entries") _] _ _ :: _) _) _ _ _)); (fail_if_success (with_reducible show wpAny _ _ (eval (PySem.Expr.ListComp _ _ _ _) _) _ _ _)); (fail_if_success (with_reducible show wpAny _ _ (call (Value.type "dict") _) _ _ _)); (fail_if_success (with_reducible show wpAny _ _ (subscriptTail _ _ (Value.ref _) (Value.int 0 _)) _ _ _)); (fail_if_success (with_reducible show wpAny _ _ (subscriptTail _ _ (Value.ref _) (Value.int 1 _)) _ _ _)); (fail_if_success (with_reducible show wpAny _ _ (pyIter (Value.ref _)) _ _ _)); (first | (k_unfold; (try dsimp only)) | (k_end; wrow_close) | ((with_reducible show wpAny _ _ (setItem (Value.ref _) (Value.int _ _) _) _ _ _); (k_here; k_dflt (refine' kda_set (knd := PySem.intKind _ _) ?my1 ?my2 ?my3 ?my4 (intKind_is _ _ _ _) ?my5 ?_; (case my1 => k_asm); (case my2 => k_asm); (case my3 => k_updF); (case my4 => assumption); (case my5 => exact fit100' (by assumption))); intro h' o' F' N' hd'; (try dsimp only at N'))) | walk1 | (dsimp only; walk1) | (leave1; walk_say "STEP leave1"; try dsimp only) | fail "no step"))); all_goals (try k_fold))
      refine item_tup (by k_asm) (n := 0) (its := [.str e.way a1, .int e.one a2, .int e.two a3]) (by walk_at "MY in") (by decide) (by decide) rfl ?_ (by with_unfolding_all rfl)
      try k_fold
      ((repeat' ( (fail_if_success (with_reducible show wpAny _ _ (call (Value.ref 158) _) _ _ _)); (fail_if_success (with_reducible show wpAny _ _ (call (Value.ref 151) _) _ _ _)); (fail_if_success (with_reducible show wpAny _ _ (execs (Stmt.Assign [PySem.Expr.Name (Str.ofString "entries") _] _ _ :: _) _) _ _ _)); (fail_if_success (with_reducible show wpAny _ _ (eval (PySem.Expr.ListComp _ _ _ _) _) _ _ _)); (fail_if_success (with_reducible show wpAny _ _ (call (Value.type "dict") _) _ _ _)); (fail_if_success (with_reducible show wpAny _ _ (subscriptTail _ _ (Value.ref _) (Value.int 0 _)) _ _ _)); (fail_if_success (with_reducible show wpAny _ _ (subscriptTail _ _ (Value.ref _) (Value.int 1 _)) _ _ _)); (fail_if_success (with_reducible show wpAny _ _ (pyIter (Value.ref _)) _ _ _)); (first | (k_unfold; (try dsimp only)) | (k_end; wrow_close) | ((with_reducible show wpAny _ _ (setItem (Value.ref _) (Value.int _ _) _) _ _ _); (k_here; k_dflt (refine' kda_set (knd := PySem.intKind _ _) ?my1 ?my2 ?my3 ?my4 (intKind_is _ _ _ _) ?my5 ?_; (case my1 => k_asm); (case my2 => k_asm); (case my3 => k_updF); (case my4 => assumption); (case my5 => exact fit100' (by assumption))); intro h' o' F' N' hd'; (try dsimp only at N'))) | walk1 | (dsimp only; walk1) | (leave1; walk_say "STEP leave1"; try dsimp only) | fail "no step"))); all_goals (try k_fold))
      (rename Fr _ _ _ _ => lF')
      (rename News _ _ _ _ => lN')
      obtain ⟨pr, epr, -⟩ := led_1 lN'
      subst epr
      obtain ⟨x2, ex2, -⟩ := led_2 lN'
      subst ex2
      (rename (_ ∧ _ ∧ _ ∧ AllLt x2 _) => lx)
      (rename (_ ∧ _ ∧ _ ∧ _ ∧ AllLt pr _) => lr)
      have q3 := lN' _ (.tail _ (.head _))
      obtain ⟨b1, b2, b3, hb⟩ : ∃ b1 b2 b3, News h₀ L _ [(x2, tupD e.way e.one 0 b1 b2 b3)] := ⟨_, _, _, fun p hp => by rw [List.mem_singleton.mp hp]; exact q3⟩
      obtain ⟨nw3, K3, i3⟩ := K'.more2 (x2, tupD e.way e.one 0 b1 b2 b3) (pr, pairD e x2 tv) (allLt_mem lx.2.2.2) (allLt_mem lr.2.2.2.2) lr.1
      refine hQE _ _ ⟨_, _, nw3, rfl, lF', fun p hp => ?gN, fun p hp => ?gI, fun p hp => ?gC, fun p hp => ?gD, ⟨_, K3, fun p hp => .tail _ (.tail _ (sub p hp)), ?g⟩⟩
      case gN =>
        rcases List.mem_cons.mp hp with e1 | hp
        · rw [e1]; exact lN' _ (.tail _ (.tail _ (.head _)))
        rcases List.mem_cons.mp hp with e1 | hp
        · rw [e1]; exact lN' _ (.tail _ (.tail _ (.tail _ (.head _))))
        rcases List.mem_cons.mp hp with e1 | hp
        · rw [e1]; exact lN' _ (.tail _ (.tail _ (.tail _ (.tail _ (.head _)))))
        rcases i3 p hp with e1 | e1 | hp
        · rw [e1]; exact lN' _ (.head _)
        · rw [e1]; exact hb _ (.head _)
        · exact lN' _ (.tail _ (.tail _ (.tail _ (.tail _ (.tail _ hp)))))
      case gI =>
        rcases i3 p hp with e1 | e1 | hp
        · rw [e1]; exact Nat.ne_of_gt lr.2.1
        · rw [e1]; exact Nat.ne_of_gt lx.1
        · exact oI1 p hp
      case gC =>
        rcases i3 p hp with e1 | e1 | hp
        · rw [e1]; exact Nat.ne_of_gt lr.2.2.1
        · rw [e1]; exact Nat.ne_of_gt lx.2.1
        · exact oC1 p hp
      case gD =>
        rcases i3 p hp with e1 | e1 | hp
        · rw [e1]; exact Nat.ne_of_gt lr.2.2.2.1
        · rw [e1]; exact Nat.ne_of_gt lx.2.2.1
        · exact oD1 p hp
      case g =>
        have htk : (es.take (i + 1)).map (fun e => ({ e with two := 0 } : Ent)) = (es.take i).map (fun e => ({ e with two := 0 } : Ent)) ++ [{ e with two := 0 }] := by
          rw [List.take_add_one, he, List.map_append]; rfl
        rw [htk]
        exact (PairsAt.mono (Rw := TupAt) (fun r r' x e h hs => TupAt.mono h hs) hPs fun p hp => .tail _ (.tail _ hp)).snoc (t := tv) (e := { e with two := 0 }) (.head _) ⟨_, _, _, .tail _ (.head _)⟩
    case hF =>
      rintro ys nw ⟨rest', K', sub, hPs⟩
      rw [hkl, List.take_length] at hPs
      unfold LCg.FinE
      intro D h tk F₁ N₁ o1
      obtain ⟨prs, q1, q2, q3, q4⟩ := hPs.tab (w := w) (TupsAt rest') .nil (fun x e kvs es a b => .cons a b)
      clear F9 N9
      try k_fold
      ((repeat' ( (fail_if_success (with_reducible show wpAny _ _ (call (Value.ref 158) _) _ _ _)); (fail_if_success (with_reducible show wpAny _ _ (call (Value.ref 151) _) _ _ _)); (fail_if_success (with_reducible show wpAny _ _ (execs (Stmt.Assign [PySem.Expr.Name (Str.ofString "entries") _] _ _ :: _) _) _ _ _)); (fail_if_success (with_reducible show wpAny _ _ (eval (PySem.Expr.ListComp _ _ _ _) _) _ _ _)); (fail_if_success (with_reducible show wpAny _ _ (call (Value.type "dict") _) _ _ _)); (fail_if_success (with_reducible show wpAny _ _ (subscriptTail _ _ (Value.ref _) (Value.int 0 _)) _ _ _)); (fail_if_success (with_reducible show wpAny _ _ (subscriptTail _ _ (Value.ref _) (Value.int 1 _)) _ _ _)); (fail_if_success (with_reducible show wpAny _ _ (pyIter (Value.ref _)) _ _ _)); (first | (k_unfold; (try dsimp only)) | (k_end; wrow_close) | ((with_reducible show wpAny _ _ (setItem (Value.ref _) (Value.int _ _) _) _ _ _); (k_here; k_dflt (refine' kda_set (knd := PySem.intKind _ _) ?my1 ?my2 ?my3 ?my4 (intKind_is _ _ _ _) ?my5 ?_; (case my1 => k_asm); (case my2 => k_asm); (case my3 => k_updF); (case my4 => assumption); (case my5 => exact fit100' (by assumption))); intro h' o' F' N' hd'; (try dsimp only at N'))) | walk1 | (dsimp only; walk1) | (leave1; walk_say "STEP leave1"; try dsimp only) | fail "no step"))); all_goals (try k_fold))
      refine dict_pairs_K (knd := PySem.intKind prg w) (c := ys.length) (its := ys) rfl F₁ N₁ T.nolimit (.head _) q1 ?nd ?sz ?hp ?_
      case nd => rw [q2, keys_zero]; exact hTb.nodup
      case sz => rw [q3.length, List.length_map]; omega
      case hp =>
        intro j kv hj
        obtain ⟨p, key, n, g1, g2, g3⟩ := q4 j kv hj
        exact ⟨p, key, n, g1, .tail _ (K'.inRest _ g2), g3⟩
      intro h' tk' D2 oD2 F2 N2 hd2 lo2 lt2
      have hmC2 : (L + 1 + 1, oT) ∈ (D2, oD2) :: (D, LCg.lst ys) :: nw := .tail _ (.tail _ K'.inT)
      have N7 := news_cell N2 hmC2
      have u1 : ∀ p ∈ offL (L + 1 + 1) ((D2, oD2) :: (D, LCg.lst ys) :: nw), @Ne Nat p.1 (L + 1 + 1) := offL_ne
      have c2 : @LT.lt Nat _ (L + 1 + 1) D2 := lt2 (L + 1 + 1, oT) (.tail _ K'.inT)
      have v1 : (D2, oD2) ∈ offL (L + 1 + 1) ((D2, oD2) :: (D, LCg.lst ys) :: nw) := offL_mem.mpr ⟨.head _, Nat.ne_of_gt c2⟩
      have vK : ∀ p ∈ nw, @Ne Nat p.1 (L + 1 + 1) → p ∈ offL (L + 1 + 1) ((D2, oD2) :: (D, LCg.lst ys) :: nw) := fun p hp hn => offL_mem.mpr ⟨.tail _ (.tail _ hp), hn⟩
      generalize offL (L + 1 + 1) ((D2, oD2) :: (D, LCg.lst ys) :: nw) = O at *
      clear F₁ N₁ N2 hmC2
      try k_fold
      ((repeat' ( (fail_if_success (with_reducible show wpAny _ _ (call (Value.ref 158) _) _ _ _)); (fail_if_success (with_reducible show wpAny _ _ (call (Value.ref 151) _) _ _ _)); (fail_if_success (with_reducible show wpAny _ _ (execs (Stmt.Assign [PySem.Expr.Name (Str.ofString "entries") _] _ _ :: _) _) _ _ _)); (fail_if_success (with_reducible show wpAny _ _ (eval (PySem.Expr.ListComp _ _ _ _) _) _ _ _)); (fail_if_success (with_reducible show wpAny _ _ (call (Value.type "dict") _) _ _ _)); (fail_if_success (with_reducible show wpAny _ _ (subscriptTail _ _ (Value.ref _) (Value.int 0 _)) _ _ _)); (fail_if_success (with_reducible show wpAny _ _ (subscriptTail _ _ (Value.ref _) (Value.int 1 _)) _ _ _)); (fail_if_success (with_reducible show wpAny _ _ (pyIter (Value.ref _)) _ _ _)); (first | (k_unfold; (try dsimp only)) | (k_end; wrow_close) | ((with_reducible show wpAny _ _ (setItem (Value.ref _) (Value.int _ _) _) _ _ _); (k_here; k_dflt (refine' kda_set (knd := PySem.intKind _ _) ?my1 ?my2 ?my3 ?my4 (intKind_is _ _ _ _) ?my5 ?_; (case my1 => k_asm); (case my2 => k_asm); (case my3 => k_updF); (case my4 => assumption); (case my5 => exact fit100' (by assumption))); intro h' o' F' N' hd'; (try dsimp only at N'))) | walk1 | (dsimp only; walk1) | (leave1; walk_say "STEP leave1"; try dsimp only) | fail "no step"))); all_goals (try k_fold))
      dsimp only
      (rename Fr _ _ _ _ => lF')
      (rename News _ _ _ _ => lN')
      (rename _ = Data.cell (some (Value.ref D2)) => dT2)
      obtain ⟨nw2, K2, i2⟩ := K'.swap dT2 hd2 lo2 (fun p hp => lt2 p (.tail _ hp)) q3 hTb.zero (by rw [List.length_map]; omega) (by rw [List.length_map]; omega)
      refine next _ _ ⟨_, D2, oD2, _, oF, oS, oP, rest', nw2, prs, _, lF', news_sub lN' fun p hp => ?_, K2.isPen, K2.cells, hd2, lo2, q3, hTb.zero, by rw [List.length_map]; omega, by rw [List.length_map]; omega⟩
      rcases i2 p hp with e | e | ⟨g1, g2⟩
      · rw [e]; exact .tail _ v1
      · rw [e]; exact .head _
      · exact .tail _ (vK p g1 g2)
  · dsimp only
    exact next _ _ ⟨_, tb, oTab, oT, oF, oS, oP, rest, _, kvs, es, F9, N9, K9.isPen, C, hdT, lo, hTu, hTb, hes0, hes⟩
end
theorem st3 : ∀ (w : World) (h₀ : Heap) (L fa pen : Addr) (ccd : Value) (mean : ExcName → Option Value) (mg mb : Str → Option Value) (Q : Flow → Shared → Prop) (E : Value → Shared → Prop) (s : Shared)
    (B : Below callerA h₀ [] h₀) (X : (hd.heap_1 w.params).In h₀) (T : Top hview (looseW hview [Str.ofString "PaperError"]) mean mg mb h₀)
    (I4 : Inv4 w h₀ L pen s.heap) (next : ∀ h tk, Inv4 w h₀ L pen h → wpAny (model PySem.Challenge.rw_og0136_01.row.prog w) (callerA.deeper (lawE L fa ccd)) (lawT 5 L fa ccd) Q E { s with heap := h, toks := tk }),
    wpAny (model PySem.Challenge.rw_og0136_01.row.prog w) (callerA.deeper (lawE L fa ccd)) (lawT 4 L fa ccd) Q E s := by
  intro w h₀ L fa pen ccd mean mg mb Q E s B X T I4 next
  obtain ⟨m, tb, oTab, oT, oF, oS, oP, rest, news, kvs, es, F, N, P, C, hdT, lo, hTu, hTb, hes0, hes⟩ := I4
  obtain ⟨hp, gs, dr, tks, os⟩ := s
  exact (Classical.byContradiction fun hn => @Classical.epsilon_spec _ (fun x : (World) × (Heap) × (Addr) × (Addr) × (Addr) × (Value) × (ExcName → Option Value) × (Str → Option Value) × (Str → Option Value) × (Flow → Shared → Prop) × (Value → Shared → Prop) × (Heap) × (Array GenState) × (Drawn) × (Nat) × (OsState) × (Str → Option Value) × (Addr) × (Obj) × (Obj) × (Obj) × (Obj) × (Obj) × (Led) × (Led) × (List (Int × Value)) × (List Ent) => ¬ Zst3.G (x.1) (x.2.1) (x.2.2.1) (x.2.2.2.1) (x.2.2.2.2.1) (x.2.2.2.2.2.1) (x.2.2.2.2.2.2.1) (x.2.2.2.2.2.2.2.1) (x.2.2.2.2.2.2.2.2.1) (x.2.2.2.2.2.2.2.2.2.1) (x.2.2.2.2.2.2.2.2.2.2.1) (x.2.2.2.2.2.2.2.2.2.2.2.1) (x.2.2.2.2.2.2.2.2.2.2.2.2.1) (x.2.2.2.2.2.2.2.2.2.2.2.2.2.1) (x.2.2.2.2.2.2.2.2.2.2.2.2.2.2.1) (x.2.2.2.2.2.2.2.2.2.2.2.2.2.2.2.1) (x.2.2.2.2.2.2.2.2.2.2.2.2.2.2.2.2.1) (x.2.2.2.2.2.2.2.2.2.2.2.2.2.2.2.2.2.1) (x.2.2.2.2.2.2.2.2.2.2.2.2.2.2.2.2.2.2.1) (x.2.2.2.2.2.2.2.2.2.2.2.2.2.2.2.2.2.2.2.1) (x.2.2.2.2.2.2.2.2.2.2.2.2.2.2.2.2.2.2.2.2.1) (x.2.2.2.2.2.2.2.2.2.2.2.2.2.2.2.2.2.2.2.2.2.1) (x.2.2.2.2.2.2.2.2.2.2.2.2.2.2.2.2.2.2.2.2.2.2.1) (x.2.2.2.2.2.2.2.2.2.2.2.2.2.2.2.2.2.2.2.2.2.2.2.1) (x.2.2.2.2.2.2.2.2.2.2.2.2.2.2.2.2.2.2.2.2.2.2.2.2.1) (x.2.2.2.2.2.2.2.2.2.2.2.2.2.2.2.2.2.2.2.2.2.2.2.2.2.1) (x.2.2.2.2.2.2.2.2.2.2.2.2.2.2.2.2.2.2.2.2.2.2.2.2.2.2)) ⟨(w, h₀, L, fa, pen, ccd, mean, mg, mb, Q, E, hp, gs, dr, tks, os, m, tb, oTab, oT, oF, oS, oP, rest, news, kvs, es), hn⟩ Zst3.main) B X T F N P C hdT lo hTu hTb hes0 hes next
end Mine
end
section
theorem Mine.offL4 : True := by w_top off; trivial
namespace Mine
noncomputable def Zst4.G (w : World) (h₀ : Heap) (L : Addr) (fa : Addr) (pen : Addr) (ccd : Value) (mean : ExcName → Option Value) (mg : Str → Option Value) (mb : Str → Option Value) (Q : Flow → Shared → Prop) (E : Value → Shared → Prop) (hp : Heap) (gs : Array GenState) (dr : Drawn) (tks : Nat) (os : OsState) (m : Str → Option Value) (tb : Addr) (oTab : Obj) (oT : Obj) (oF : Obj) (oS : Obj) (oP : Obj) (rest : Led) (news : Led) (kvs : List (Int × Value)) (es : List Ent) : Prop :=
  ∀ (B : Below callerA h₀ [] h₀), ∀ (X : (hd.heap_1 w.params).In h₀), ∀ (T : Top hview (looseW hview [Str.ofString "PaperError"]) mean mg mb h₀), ∀ (F9 : Fr h₀ L hp m), ∀ (N9 : News h₀ L hp news), ∀ (P : PenIs news pen (cellsL L tb oTab oT oF oS oP rest)), ∀ (C : Cells L pen tb oT oF oS oP rest), ∀ (hdT : Obj.IsDictOf (PySem.intKind prg w) oTab kvs), ∀ (lo : (tb == sysModules) = false), ∀ (hTu : TupsAt rest kvs es), ∀ (hTb : Tbl es), ∀ (hes0 : 0 < es.length), ∀ (hes : es.length ≤ 6), ∀ (next : ∀ h tk, Inv5 w h₀ L pen h → wpAny (model PySem.Challenge.rw_og0136_01.row.prog w) (callerA.deeper (lawE L fa ccd)) (lawT 6 L fa ccd) Q E (⟨h, gs, dr, tk, os⟩ : Shared)), wpAny (model PySem.Challenge.rw_og0136_01.row.prog w) (callerA.deeper (lawE L fa ccd)) (lawT 5 L fa ccd) Q E ⟨hp, gs, dr, tks, os⟩
noncomputable def Zst4.c : (World) × (Heap) × (Addr) × (Addr) × (Addr) × (Value) × (ExcName → Option Value) × (Str → Option Value) × (Str → Option Value) × (Flow → Shared → Prop) × (Value → Shared → Prop) × (Heap) × (Array GenState) × (Drawn) × (Nat) × (OsState) × (Str → Option Value) × (Addr) × (Obj) × (Obj) × (Obj) × (Obj) × (Obj) × (Led) × (Led) × (List (Int × Value)) × (List Ent) :=
  @Classical.epsilon _ ⟨((aWorld 0 : World), (default : Heap), (default : Addr), (default : Addr), (default : Addr), (default : Value), (fun _ => none : ExcName → Option Value), (fun _ => none : Str → Option Value), (fun _ => none : Str → Option Value), (fun _ _ => True : Flow → Shared → Prop), (fun _ _ => True : Value → Shared → Prop), (default : Heap), (#[] : Array GenState), ({} : Drawn), (default : Nat), ({} : OsState), (fun _ => none : Str → Option Value), (default : Addr), (default : Obj), (default : Obj), (default : Obj), (default : Obj), (default : Obj), (default : Led), (default : Led), (default : List (Int × Value)), (default : List Ent))⟩ fun x => ¬ Zst4.G (x.1) (x.2.1) (x.2.2.1) (x.2.2.2.1) (x.2.2.2.2.1) (x.2.2.2.2.2.1) (x.2.2.2.2.2.2.1) (x.2.2.2.2.2.2.2.1) (x.2.2.2.2.2.2.2.2.1) (x.2.2.2.2.2.2.2.2.2.1) (x.2.2.2.2.2.2.2.2.2.2.1) (x.2.2.2.2.2.2.2.2.2.2.2.1) (x.2.2.2.2.2.2.2.2.2.2.2.2.1) (x.2.2.2.2.2.2.2.2.2.2.2.2.2.1) (x.2.2.2.2.2.2.2.2.2.2.2.2.2.2.1) (x.2.2.2.2.2.2.2.2.2.2.2.2.2.2.2.1) (x.2.2.2.2.2.2.2.2.2.2.2.2.2.2.2.2.1) (x.2.2.2.2.2.2.2.2.2.2.2.2.2.2.2.2.2.1) (x.2.2.2.2.2.2.2.2.2.2.2.2.2.2.2.2.2.2.1) (x.2.2.2.2.2.2.2.2.2.2.2.2.2.2.2.2.2.2.2.1) (x.2.2.2.2.2.2.2.2.2.2.2.2.2.2.2.2.2.2.2.2.1) (x.2.2.2.2.2.2.2.2.2.2.2.2.2.2.2.2.2.2.2.2.2.1) (x.2.2.2.2.2.2.2.2.2.2.2.2.2.2.2.2.2.2.2.2.2.2.1) (x.2.2.2.2.2.2.2.2.2.2.2.2.2.2.2.2.2.2.2.2.2.2.2.1) (x.2.2.2.2.2.2.2.2.2.2.2.2.2.2.2.2.2.2.2.2.2.2.2.2.1) (x.2.2.2.2.2.2.2.2.2.2.2.2.2.2.2.2.2.2.2.2.2.2.2.2.2.1) (x.2.2.2.2.2.2.2.2.2.2.2.2.2.2.2.2.2.2.2.2.2.2.2.2.2.2)
noncomputable def Zst4.V.w : World := Zst4.c.1
noncomputable def Zst4.V.h₀ : Heap := Zst4.c.2.1
noncomputable def Zst4.V.L : Addr := Zst4.c.2.2.1
noncomputable def Zst4.V.fa : Addr := Zst4.c.2.2.2.1
noncomputable def Zst4.V.pen : Addr := Zst4.c.2.2.2.2.1
noncomputable def Zst4.V.ccd : Value := Zst4.c.2.2.2.2.2.1
noncomputable def Zst4.V.mean : ExcName → Option Value := Zst4.c.2.2.2.2.2.2.1
noncomputable def Zst4.V.mg : Str → Option Value := Zst4.c.2.2.2.2.2.2.2.1
noncomputable def Zst4.V.mb : Str → Option Value := Zst4.c.2.2.2.2.2.2.2.2.1
noncomputable def Zst4.V.Q : Flow → Shared → Prop := Zst4.c.2.2.2.2.2.2.2.2.2.1
noncomputable def Zst4.V.E : Value → Shared → Prop := Zst4.c.2.2.2.2.2.2.2.2.2.2.1
noncomputable def Zst4.V.hp : Heap := Zst4.c.2.2.2.2.2.2.2.2.2.2.2.1
noncomputable def Zst4.V.gs : Array GenState := Zst4.c.2.2.2.2.2.2.2.2.2.2.2.2.1
noncomputable def Zst4.V.dr : Drawn := Zst4.c.2.2.2.2.2.2.2.2.2.2.2.2.2.1
noncomputable def Zst4.V.tks : Nat := Zst4.c.2.2.2.2.2.2.2.2.2.2.2.2.2.2.1
noncomputable def Zst4.V.os : OsState := Zst4.c.2.2.2.2.2.2.2.2.2.2.2.2.2.2.2.1
noncomputable def Zst4.V.m : Str → Option Value := Zst4.c.2.2.2.2.2.2.2.2.2.2.2.2.2.2.2.2.1
noncomputable def Zst4.V.tb : Addr := Zst4.c.2.2.2.2.2.2.2.2.2.2.2.2.2.2.2.2.2.1
noncomputable def Zst4.V.oTab : Obj := Zst4.c.2.2.2.2.2.2.2.2.2.2.2.2.2.2.2.2.2.2.1
noncomputable def Zst4.V.oT : Obj := Zst4.c.2.2.2.2.2.2.2.2.2.2.2.2.2.2.2.2.2.2.2.1
noncomputable def Zst4.V.oF : Obj := Zst4.c.2.2.2.2.2.2.2.2.2.2.2.2.2.2.2.2.2.2.2.2.1
noncomputable def Zst4.V.oS : Obj := Zst4.c.2.2.2.2.2.2.2.2.2.2.2.2.2.2.2.2.2.2.2.2.2.1
noncomputable def Zst4.V.oP : Obj := Zst4.c.2.2.2.2.2.2.2.2.2.2.2.2.2.2.2.2.2.2.2.2.2.2.1
noncomputable def Zst4.V.rest : Led := Zst4.c.2.2.2.2.2.2.2.2.2.2.2.2.2.2.2.2.2.2.2.2.2.2.2.1
noncomputable def Zst4.V.news : Led := Zst4.c.2.2.2.2.2.2.2.2.2.2.2.2.2.2.2.2.2.2.2.2.2.2.2.2.1
noncomputable def Zst4.V.kvs : List (Int × Value) := Zst4.c.2.2.2.2.2.2.2.2.2.2.2.2.2.2.2.2.2.2.2.2.2.2.2.2.2.1
noncomputable def Zst4.V.es : List Ent := Zst4.c.2.2.2.2.2.2.2.2.2.2.2.2.2.2.2.2.2.2.2.2.2.2.2.2.2.2
section
open Zst4.V
set_option maxHeartbeats 8000000 in
theorem Zst4.main : Zst4.G Zst4.V.w Zst4.V.h₀ Zst4.V.L Zst4.V.fa Zst4.V.pen Zst4.V.ccd Zst4.V.mean Zst4.V.mg Zst4.V.mb Zst4.V.Q Zst4.V.E Zst4.V.hp Zst4.V.gs Zst4.V.dr Zst4.V.tks Zst4.V.os Zst4.V.m Zst4.V.tb Zst4.V.oTab Zst4.V.oT Zst4.V.oF Zst4.V.oS Zst4.V.oP Zst4.V.rest Zst4.V.news Zst4.V.kvs Zst4.V.es := by
  unfold Zst4.G
  k_fill
  intro B X T F9 N9 P C hdT lo hTu hTb hes0 hes next
  have K : Core w L pen news tb oTab oT oF oS oP rest kvs es := ⟨P, C, hdT, lo, hTu, hTb, hes0, hes⟩
  have dT := C.cT
  have hmT := K.inTab
  have hmC := K.inT
  clear P
  try dsimp only at F9 N9
  dsimp only [lawE, lawT, lawB, List.drop]
  try k_fold
  ((repeat' ( (fail_if_success (with_reducible show wpAny _ _ (execs (Stmt.Assign [PySem.Expr.Name (Str.ofString "least_widths") _] _ _ :: _) _) _ _ _)); (fail_if_success (with_reducible show wpAny _ _ (eval (PySem.Expr.ListComp _ _ _ _) _) _ _ _)); (fail_if_success (with_reducible show wpAny _ _ (call (Value.type "dict") _) _ _ _)); (fail_if_success (with_reducible show wpAny _ _ (subscriptTail _ _ (Value.ref _) (Value.int 0 _)) _ _ _)); (fail_if_success (with_reducible show wpAny _ _ (subscriptTail _ _ (Value.ref _) (Value.int 1 _)) _ _ _)); (fail_if_success (with_reducible show wpAny _ _ (subscriptTail _ _ (Value.ref _) (Value.int 2 _)) _ _ _)); (fail_if_success (with_reducible show wpAny _ _ (pyIter (Value.ref _)) _ _ _)); (first | (k_unfold; (try dsimp only)) | (k_end; wrow_close) | walk1 | (dsimp only; walk1) | (leave1; walk_say "STEP leave1"; try dsimp only) | fail "no step"))); all_goals (try k_fold))
  have hkl : kvs.length = es.length := hTu.length
  refine comp_dict (knd := PySem.intKind prg w) (h₀ := h₀) (L := L) (m := m) (by with_unfolding_all rfl) (by decide) rfl (by decide) rfl rfl ?_
  ((repeat' ( (fail_if_success (with_reducible show wpAny _ _ (execs (Stmt.Assign [PySem.Expr.Name (Str.ofString "least_widths") _] _ _ :: _) _) _ _ _)); (fail_if_success (with_reducible show wpAny _ _ (eval (PySem.Expr.ListComp _ _ _ _) _) _ _ _)); (fail_if_success (with_reducible show wpAny _ _ (call (Value.type "dict") _) _ _ _)); (fail_if_success (with_reducible show wpAny _ _ (subscriptTail _ _ (Value.ref _) (Value.int 0 _)) _ _ _)); (fail_if_success (with_reducible show wpAny _ _ (subscriptTail _ _ (Value.ref _) (Value.int 1 _)) _ _ _)); (fail_if_success (with_reducible show wpAny _ _ (subscriptTail _ _ (Value.ref _) (Value.int 2 _)) _ _ _)); (fail_if_success (with_reducible show wpAny _ _ (pyIter (Value.ref _)) _ _ _)); (first | (k_unfold; (try dsimp only)) | (k_end; wrow_close) | walk1 | (dsimp only; walk1) | (leave1; walk_say "STEP leave1"; try dsimp only) | fail "no step"))); all_goals (try k_fold))
  refine ⟨tb, oTab, kvs, _, rfl, F9, N9, hmT, hdT, lo, by rw [sizeLine_eq]; omega, fun g => rest_of_inv (EntJ w L pen tb oTab oT oF oS oP rest kvs es) kvs.length ?hS ?hF ?turn kvs.length 0 [] _ (Nat.zero_add _) ⟨rest, K, fun _ h => h, .nil⟩⟩
  case hS => rintro i ys nw ⟨rest', K', -, -⟩; exact K'.inTab
  case turn =>
    rintro i v ys nw I oI Cc oC D m₂ h tk E' QE hQE hi ⟨key, y, hky, hv⟩ ⟨rest', K', sub, hPs⟩ hoC hx F₁ N₁ oI1 oC1 oD1 n1 n2 n3
    obtain ⟨e, x, he, rfl, rfl, a1, a2, a3, hx3⟩ := hTu.get hky
    obtain ⟨tv, rfl⟩ := Value.isInt_shape hv
    have hat := valueAt_of_get (keysNodup_of_isDictOf hdT) hky
    have hx4 := K'.inRest _ (sub _ hx3)
    have hmT' := K'.inTab
    have hmC' := K'.inT
    unfold tupD at hx4
    clear F9 N9
    try k_fold
    clear hx3
    ((repeat' ( (fail_if_success (with_reducible show wpAny _ _ (execs (Stmt.Assign [PySem.Expr.Name (Str.ofString "least_widths") _] _ _ :: _) _) _ _ _)); (fail_if_success (with_reducible show wpAny _ _ (eval (PySem.Expr.ListComp _ _ _ _) _) _ _ _)); (fail_if_success (with_reducible show wpAny _ _ (call (Value.type "dict") _) _ _ _)); (fail_if_success (with_reducible show wpAny _ _ (subscriptTail _ _ (Value.ref _) (Value.int 0 _)) _ _ _)); (fail_if_success (with_reducible show wpAny _ _ (subscriptTail _ _ (Value.ref _) (Value.int 1 _)) _ _ _)); (fail_if_success (with_reducible show wpAny _ _ (subscriptTail _ _ (Value.ref _) (Value.int 2 _)) _ _ _)); (fail_if_success (with_reducible show wpAny _ _ (pyIter (Value.ref _)) _ _ _)); (first | (k_unfold; (try dsimp only)) | (k_end; wrow_close) | walk1 | (dsimp only; walk1) | (leave1; walk_say "STEP leave1"; try dsimp only) | fail "no step"))); all_goals (try k_fold))
    refine item_tup (by k_asm) (n := 0) (its := [.str e.way a1, .int e.one a2, .int e.two a3]) (by walk_at "MY in") (by decide) (by decide) rfl ?_ (by with_unfolding_all rfl)
    try k_fold
    ((repeat' ( (fail_if_success (with_reducible show wpAny _ _ (execs (Stmt.Assign [PySem.Expr.Name (Str.ofString "least_widths") _] _ _ :: _) _) _ _ _)); (fail_if_success (with_reducible show wpAny _ _ (eval (PySem.Expr.ListComp _ _ _ _) _) _ _ _)); (fail_if_success (with_reducible show wpAny _ _ (call (Value.type "dict") _) _ _ _)); (fail_if_success (with_reducible show wpAny _ _ (subscriptTail _ _ (Value.ref _) (Value.int 0 _)) _ _ _)); (fail_if_success (with_reducible show wpAny _ _ (subscriptTail _ _ (Value.ref _) (Value.int 1 _)) _ _ _)); (fail_if_success (with_reducible show wpAny _ _ (subscriptTail _ _ (Value.ref _) (Value.int 2 _)) _ _ _)); (fail_if_success (with_reducible show wpAny _ _ (pyIter (Value.ref _)) _ _ _)); (first | (k_unfold; (try dsimp only)) | (k_end; wrow_close) | walk1 | (dsimp only; walk1) | (leave1; walk_say "STEP leave1"; try dsimp only) | fail "no step"))); all_goals (try k_fold))
    refine item_tup (by k_asm) (n := 0) (its := [.str e.way a1, .int e.one a2, .int e.two a3]) (by walk_at "MY in") (by decide) (by decide) rfl ?_ (by with_unfolding_all rfl)
    try k_fold
    ((repeat' ( (fail_if_success (with_reducible show wpAny _ _ (execs (Stmt.Assign [PySem.Expr.Name (Str.ofString "least_widths") _] _ _ :: _) _) _ _ _)); (fail_if_success (with_reducible show wpAny _ _ (eval (PySem.Expr.ListComp _ _ _ _) _) _ _ _)); (fail_if_success (with_reducible show wpAny _ _ (call (Value.type "dict") _) _ _ _)); (fail_if_success (with_reducible show wpAny _ _ (subscriptTail _ _ (Value.ref _) (Value.int 0 _)) _ _ _)); (fail_if_success (with_reducible show wpAny _ _ (subscriptTail _ _ (Value.ref _) (Value.int 1 _)) _ _ _)); (fail_if_success (with_reducible show wpAny _ _ (subscriptTail _ _ (Value.ref _) (Value.int 2 _)) _ _ _)); (fail_if_success (with_reducible show wpAny _ _ (pyIter (Value.ref _)) _ _ _)); (first | (k_unfold; (try dsimp only)) | (k_end; wrow_close) | walk1 | (dsimp only; walk1) | (leave1; walk_say "STEP leave1"; try dsimp only) | fail "no step"))); all_goals (try k_fold))
    refine item_tup (by k_asm) (n := 0) (its := [.str e.way a1, .int e.one a2, .int e.two a3]) (by walk_at "MY in") (by decide) (by decide) rfl ?_ (by with_unfolding_all rfl)
    try k_fold
    ((repeat' ( (fail_if_success (with_reducible show wpAny _ _ (execs (Stmt.Assign [PySem.Expr.Name (Str.ofString "least_widths") _] _ _ :: _) _) _ _ _)); (fail_if_success (with_reducible show wpAny _ _ (eval (PySem.Expr.ListComp _ _ _ _) _) _ _ _)); (fail_if_success (with_reducible show wpAny _ _ (call (Value.type "dict") _) _ _ _)); (fail_if_success (with_reducible show wpAny _ _ (subscriptTail _ _ (Value.ref _) (Value.int 0 _)) _ _ _)); (fail_if_success (with_reducible show wpAny _ _ (subscriptTail _ _ (Value.ref _) (Value.int 1 _)) _ _ _)); (fail_if_success (with_reducible show wpAny _ _ (subscriptTail _ _ (Value.ref _) (Value.int 2 _)) _ _ _)); (fail_if_success (with_reducible show wpAny _ _ (pyIter (Value.ref _)) _ _ _)); (first | (k_unfold; (try dsimp only)) | (k_end; wrow_close) | walk1 | (dsimp only; walk1) | (leave1; walk_say "STEP leave1"; try dsimp only) | fail "no step"))); all_goals (try k_fold))
    (rename Fr _ _ _ _ => lF')
    (rename News _ _ _ _ => lN')
    obtain ⟨pr, epr, -⟩ := led_1 lN'
    subst epr
    obtain ⟨x2, ex2, -⟩ := led_2 lN'
    subst ex2
    obtain ⟨d2, ed2, -⟩ := led_3 lN'
    subst ed2
    (rename (_ ∧ _ ∧ _ ∧ AllLt d2 _) => ld)
    (rename (_ ∧ _ ∧ _ ∧ _ ∧ _ ∧ AllLt pr _) => lr)
    (rename d2 < x2 => lx)
    have q3 := lN' _ (.tail _ (.tail _ (.head _)))
    obtain ⟨b1, b2, b3, b4, b5, b6, hb⟩ : ∃ b1 b2 b3 b4 b5 b6, News h₀ L _ [(d2, entD w e.way e.one e.two b1 b2 b3 b4 b5 b6)] := ⟨_, _, _, _, _, _, fun p hp => by rw [List.mem_singleton.mp hp]; exact q3⟩
    obtain ⟨nw3, K3, i3⟩ := K'.more3 (d2, entD w e.way e.one e.two b1 b2 b3 b4 b5 b6) (x2, instObj 38 d2) (pr, pairD e x2 tv) (allLt_mem ld.2.2.2) (fun p hp => Nat.lt_trans (allLt_mem ld.2.2.2 p hp) lx) (allLt_mem lr.2.2.2.2.2) lx lr.2.1 lr.1
    refine hQE _ _ ⟨_, _, nw3, rfl, lF', fun p hp => ?gN, fun p hp => ?gI, fun p hp => ?gC, fun p hp => ?gD, ⟨_, K3, fun p hp => .tail _ (.tail _ (.tail _ (sub p hp))), ?g⟩⟩
    case gN =>
      rcases List.mem_cons.mp hp with e1 | hp
      · rw [e1]; exact lN' _ (.tail _ (.tail _ (.tail _ (.head _))))
      rcases List.mem_cons.mp hp with e1 | hp
      · rw [e1]; exact lN' _ (.tail _ (.tail _ (.tail _ (.tail _ (.head _)))))
      rcases List.mem_cons.mp hp with e1 | hp
      · rw [e1]; exact lN' _ (.tail _ (.tail _ (.tail _ (.tail _ (.tail _ (.head _))))))
      rcases i3 p hp with e1 | e1 | e1 | hp
      · rw [e1]; exact lN' _ (.head _)
      · rw [e1]; exact lN' _ (.tail _ (.head _))
      · rw [e1]; exact hb _ (.head _)
      · exact lN' _ (.tail _ (.tail _ (.tail _ (.tail _ (.tail _ (.tail _ hp))))))
    case gI =>
      rcases i3 p hp with e1 | e1 | e1 | hp
      · rw [e1]; exact Nat.ne_of_gt lr.2.2.1
      · rw [e1]; exact Nat.ne_of_gt (Nat.lt_trans ld.1 lx)
      · rw [e1]; exact Nat.ne_of_gt ld.1
      · exact oI1 p hp
    case gC =>
      rcases i3 p hp with e1 | e1 | e1 | hp
      · rw [e1]; exact Nat.ne_of_gt lr.2.2.2.1
      · rw [e1]; exact Nat.ne_of_gt (Nat.lt_trans ld.2.1 lx)
      · rw [e1]; exact Nat.ne_of_gt ld.2.1
      · exact oC1 p hp
    case gD =>
      rcases i3 p hp with e1 | e1 | e1 | hp
      · rw [e1]; exact Nat.ne_of_gt lr.2.2.2.2.1
      · rw [e1]; exact Nat.ne_of_gt (Nat.lt_trans ld.2.2.1 lx)
      · rw [e1]; exact Nat.ne_of_gt ld.2.2.1
      · exact oD1 p hp
    case g =>
      have htk : es.take (i + 1) = es.take i ++ [e] := by
        rw [List.take_add_one, he]; rfl
      rw [htk]
      exact (PairsAt.mono (Rw := EntAt w) (fun r r' x e h hs => EntAt.mono h hs) hPs fun p hp => .tail _ (.tail _ (.tail _ hp))).snoc (t := tv) (e := e) (.head _) ⟨_, _, _, _, _, _, _, .tail _ (.head _), .tail _ (.tail _ (.head _))⟩
  case hF =>
    rintro ys nw ⟨rest', K', sub, hPs⟩
    rw [hkl, List.take_length] at hPs
    unfold LCg.FinE
    intro D h tk F₁ N₁ o1
    obtain ⟨prs, q1, q2, q3, q4⟩ := hPs.tab (w := w) (EntsAt w rest') .nil (fun x e kvs es a b => .cons a b)
    clear F9 N9
    try k_fold
    ((repeat' ( (fail_if_success (with_reducible show wpAny _ _ (execs (Stmt.Assign [PySem.Expr.Name (Str.ofString "least_widths") _] _ _ :: _) _) _ _ _)); (fail_if_success (with_reducible show wpAny _ _ (eval (PySem.Expr.ListComp _ _ _ _) _) _ _ _)); (fail_if_success (with_reducible show wpAny _ _ (call (Value.type "dict") _) _ _ _)); (fail_if_success (with_reducible show wpAny _ _ (subscriptTail _ _ (Value.ref _) (Value.int 0 _)) _ _ _)); (fail_if_success (with_reducible show wpAny _ _ (subscriptTail _ _ (Value.ref _) (Value.int 1 _)) _ _ _)); (fail_if_success (with_reducible show wpAny _ _ (subscriptTail _ _ (Value.ref _) (Value.int 2 _)) _ _ _)); (fail_if_success (with_reducible show wpAny _ _ (pyIter (Value.ref _)) _ _ _)); (first | (k_unfold; (try dsimp only)) | (k_end; wrow_close) | walk1 | (dsimp only; walk1) | (leave1; walk_say "STEP leave1"; try dsimp only) | fail "no step"))); all_goals (try k_fold))
    refine dict_pairs_K (knd := PySem.intKind prg w) (c := ys.length) (its := ys) rfl F₁ N₁ T.nolimit (.head _) q1 ?nd ?sz ?hp ?_
    case nd => rw [q2]; exact hTb.nodup
    case sz => rw [q3.length]; omega
    case hp =>
      intro j kv hj
      obtain ⟨p, key, n, g1, g2, g3⟩ := q4 j kv hj
      exact ⟨p, key, n, g1, .tail _ (K'.inRest _ g2), g3⟩
    intro h' tk' D2 oD2 F2 N2 hd2 lo2 lt2
    clear F₁ N₁
    try k_fold
    ((repeat' ( (fail_if_success (with_reducible show wpAny _ _ (execs (Stmt.Assign [PySem.Expr.Name (Str.ofString "least_widths") _] _ _ :: _) _) _ _ _)); (fail_if_success (with_reducible show wpAny _ _ (eval (PySem.Expr.ListComp _ _ _ _) _) _ _ _)); (fail_if_success (with_reducible show wpAny _ _ (call (Value.type "dict") _) _ _ _)); (fail_if_success (with_reducible show wpAny _ _ (subscriptTail _ _ (Value.ref _) (Value.int 0 _)) _ _ _)); (fail_if_success (with_reducible show wpAny _ _ (subscriptTail _ _ (Value.ref _) (Value.int 1 _)) _ _ _)); (fail_if_success (with_reducible show wpAny _ _ (subscriptTail _ _ (Value.ref _) (Value.int 2 _)) _ _ _)); (fail_if_success (with_reducible show wpAny _ _ (pyIter (Value.ref _)) _ _ _)); (first | (k_unfold; (try dsimp only)) | (k_end; wrow_close) | walk1 | (dsimp only; walk1) | (leave1; walk_say "STEP leave1"; try dsimp only) | fail "no step"))); all_goals (try k_fold))
    dsimp only
    (rename Fr _ _ _ _ => lF')
    (rename News _ _ _ _ => lN')
    obtain ⟨nw2, K2, i1, i2⟩ := K'.more (D2, oD2) fun p hp => lt2 p (.tail _ hp)
    refine next _ _ ⟨_, D2, tb, oTab, oT, oF, oS, oP, (D2, oD2) :: rest', nw2, kvs, es, oD2, prs, fr_upd _ lF' ⟨rfl, trivial⟩, news_sub lN' fun p hp => ?_, K2, ⟨.head _, hd2, lo2, q3.mono fun p hp => .tail _ hp⟩⟩
    rcases List.mem_cons.mp (i1 p hp) with e | h
    · rw [e]; exact .head _
    · exact .tail _ (.tail _ h)
end
theorem st4 : ∀ (w : World) (h₀ : Heap) (L fa pen : Addr) (ccd : Value) (mean : ExcName → Option Value) (mg mb : Str → Option Value) (Q : Flow → Shared → Prop) (E : Value → Shared → Prop) (s : Shared)
    (B : Below callerA h₀ [] h₀) (X : (hd.heap_1 w.params).In h₀) (T : Top hview (looseW hview [Str.ofString "PaperError"]) mean mg mb h₀)
    (I4 : Inv4 w h₀ L pen s.heap) (next : ∀ h tk, Inv5 w h₀ L pen h → wpAny (model PySem.Challenge.rw_og0136_01.row.prog w) (callerA.deeper (lawE L fa ccd)) (lawT 6 L fa ccd) Q E { s with heap := h, toks := tk }),
    wpAny (model PySem.Challenge.rw_og0136_01.row.prog w) (callerA.deeper (lawE L fa ccd)) (lawT 5 L fa ccd) Q E s := by
  intro w h₀ L fa pen ccd mean mg mb Q E s B X T I4 next
  obtain ⟨m, tb, oTab, oT, oF, oS, oP, rest, news, kvs, es, F9, N9, P, C, hdT, lo, hTu, hTb, hes0, hes⟩ := I4
  obtain ⟨hp, gs, dr, tks, os⟩ := s
  exact (Classical.byContradiction fun hn => @Classical.epsilon_spec _ (fun x : (World) × (Heap) × (Addr) × (Addr) × (Addr) × (Value) × (ExcName → Option Value) × (Str → Option Value) × (Str → Option Value) × (Flow → Shared → Prop) × (Value → Shared → Prop) × (Heap) × (Array GenState) × (Drawn) × (Nat) × (OsState) × (Str → Option Value) × (Addr) × (Obj) × (Obj) × (Obj) × (Obj) × (Obj) × (Led) × (Led) × (List (Int × Value)) × (List Ent) => ¬ Zst4.G (x.1) (x.2.1) (x.2.2.1) (x.2.2.2.1) (x.2.2.2.2.1) (x.2.2.2.2.2.1) (x.2.2.2.2.2.2.1) (x.2.2.2.2.2.2.2.1) (x.2.2.2.2.2.2.2.2.1) (x.2.2.2.2.2.2.2.2.2.1) (x.2.2.2.2.2.2.2.2.2.2.1) (x.2.2.2.2.2.2.2.2.2.2.2.1) (x.2.2.2.2.2.2.2.2.2.2.2.2.1) (x.2.2.2.2.2.2.2.2.2.2.2.2.2.1) (x.2.2.2.2.2.2.2.2.2.2.2.2.2.2.1) (x.2.2.2.2.2.2.2.2.2.2.2.2.2.2.2.1) (x.2.2.2.2.2.2.2.2.2.2.2.2.2.2.2.2.1) (x.2.2.2.2.2.2.2.2.2.2.2.2.2.2.2.2.2.1) (x.2.2.2.2.2.2.2.2.2.2.2.2.2.2.2.2.2.2.1) (x.2.2.2.2.2.2.2.2.2.2.2.2.2.2.2.2.2.2.2.1) (x.2.2.2.2.2.2.2.2.2.2.2.2.2.2.2.2.2.2.2.2.1) (x.2.2.2.2.2.2.2.2.2.2.2.2.2.2.2.2.2.2.2.2.2.1) (x.2.2.2.2.2.2.2.2.2.2.2.2.2.2.2.2.2.2.2.2.2.2.1) (x.2.2.2.2.2.2.2.2.2.2.2.2.2.2.2.2.2.2.2.2.2.2.2.1) (x.2.2.2.2.2.2.2.2.2.2.2.2.2.2.2.2.2.2.2.2.2.2.2.2.1) (x.2.2.2.2.2.2.2.2.2.2.2.2.2.2.2.2.2.2.2.2.2.2.2.2.2.1) (x.2.2.2.2.2.2.2.2.2.2.2.2.2.2.2.2.2.2.2.2.2.2.2.2.2.2)) ⟨(w, h₀, L, fa, pen, ccd, mean, mg, mb, Q, E, hp, gs, dr, tks, os, m, tb, oTab, oT, oF, oS, oP, rest, news, kvs, es), hn⟩ Zst4.main) B X T F9 N9 P C hdT lo hTu hTb hes0 hes next
end Mine
end
section
theorem Mine.offL5 : True := by w_top off; trivial
namespace Mine
set_option maxHeartbeats 8000000 in
theorem st5 : ∀ (w : World) (h₀ : Heap) (L fa pen : Addr) (ccd : Value) (mean : ExcName → Option Value) (mg mb : Str → Option Value) (Q : Flow → Shared → Prop) (E : Value → Shared → Prop) (s : Shared)
    (B : Below callerA h₀ [] h₀) (X : (hd.heap_1 w.params).In h₀) (T : Top hview (looseW hview [Str.ofString "PaperError"]) mean mg mb h₀)
    (I5 : Inv5 w h₀ L pen s.heap) (next : ∀ h tk, Inv7 w h₀ L pen h → wpAny (model PySem.Challenge.rw_og0136_01.row.prog w) (callerA.deeper (lawE L fa ccd)) (lawT 7 L fa ccd) Q E { s with heap := h, toks := tk }),
    wpAny (model PySem.Challenge.rw_og0136_01.row.prog w) (callerA.deeper (lawE L fa ccd)) (lawT 6 L fa ccd) Q E s := by
  k_fill
  intro w h₀ L fa pen ccd mean mg mb Q E s B X T I5 next
  obtain ⟨m, en, tb, oTab, oT, oF, oS, oP, rest, news, kvs, es, oE, kvsE, F9, N9, K, hE⟩ := I5
  obtain ⟨hp, gs, dr, tks, os⟩ := s
  dsimp only at F9 N9
  simp only [upd] at F9
  dsimp only [lawE, lawT, lawB, List.drop]
  try k_fold
  ((repeat' ( (fail_if_success (with_reducible show wpAny _ _ (call (Value.ref 118) _) _ _ _)); (fail_if_success (with_reducible show wpAny _ _ (execs (Stmt.Assign [PySem.Expr.Name (Str.ofString "is_mixed") _] _ _ :: _) _) _ _ _)); (fail_if_success (with_reducible show wpAny _ _ (eval (PySem.Expr.ListComp _ _ _ _) _) _ _ _)); (first | (k_unfold; (try dsimp only)) | (k_end; wrow_close) | walk1 | (dsimp only; walk1) | (leave1; walk_say "STEP leave1"; try dsimp only) | fail "no step"))); all_goals (try k_fold))
  refine' does_use (ws_does w _ en oE kvsE es (hE.mono K.inRest) fun e he => ⟨(K.tbl.vals e he).2.1, (K.tbl.vals e he).2.2.2.1⟩) ?k1 ?k2 ?k3 ?k4 ?k5 ?k6 ?k7 ?k8 ?_
  walk_at "MY call"
  rintro v9 news9 h9 tk9 ⟨lw, t1, t2, t3, rfl, rfl, lt9⟩ F8 N8
  clear F9 N9
  try k_fold
  ((repeat' ( (fail_if_success (with_reducible show wpAny _ _ (call (Value.ref 118) _) _ _ _)); (fail_if_success (with_reducible show wpAny _ _ (execs (Stmt.Assign [PySem.Expr.Name (Str.ofString "is_mixed") _] _ _ :: _) _) _ _ _)); (fail_if_success (with_reducible show wpAny _ _ (eval (PySem.Expr.ListComp _ _ _ _) _) _ _ _)); (first | (k_unfold; (try dsimp only)) | (k_end; wrow_close) | walk1 | (dsimp only; walk1) | (leave1; walk_say "STEP leave1"; try dsimp only) | fail "no step"))); all_goals (try k_fold))
  dsimp only
  (rename Fr _ _ _ _ => lF')
  (rename News _ _ _ _ => lN')
  obtain ⟨news', K', i1, i2⟩ := K.more (lw, _) lt9
  exact next _ _ ⟨_, en, lw, t1, t2, t3, tb, oTab, oT, oF, oS, oP, _, _, kvs, es, oE, kvsE, fr_upd _ lF' ⟨rfl, rfl, trivial⟩, news_sub lN' i1, K', hE.mono fun p hp => .tail _ hp, .head _⟩
end Mine
end
section
theorem Mine.offL8 : True := by w_top off; trivial
namespace Mine
/-- the list of the runs' ints -/
noncomputable def RunList (rest : Led) (ru : Addr) (es : List Ent) : Prop := ∃ (rvs : List Value) (er : Nat) (rs : List (Int × Int)), (ru, W.listOf rvs.toArray er) ∈ rest ∧ IntsAre rvs (flat rs) ∧ runKeys rs = es.map (·.key) ∧ ∀ r ∈ rs, 0 < r.2
/-- behind the runs -/
inductive Inv12 (w : World) (h₀ : Heap) (L pen : Addr) (h : Heap) : Prop
  | mk (m : Str → Option Value) (en du ru : Addr) (t1 t2 t3 : Tok) (tb : Addr) (oTab oT oF oS oP : Obj) (rest news : Led) (kvs : List (Int × Value)) (es : List Ent) (oE : Obj) (kvsE : List (Int × Value)) (F : Fr h₀ L h (upd [(Str.ofString "entries", some (.ref en)), (Str.ofString "due", some (.ref du)), (Str.ofString "runs", some (.ref ru))] m)) (N : News h₀ L h news) (K : Core w L pen news tb oTab oT oF oS oP rest kvs es) (hE : EntTab w rest en oE kvsE es)
    (hw : (du, tup3 (mixN es) (topOne es : Nat) (topTwo es : Nat) t1 t2 t3) ∈ rest) (hr : RunList rest ru es) : Inv12 w h₀ L pen h
noncomputable def Zst8.G (w : World) (h₀ : Heap) (L : Addr) (fa : Addr) (pen : Addr) (ccd : Value) (mean : ExcName → Option Value) (mg : Str → Option Value) (mb : Str → Option Value) (Q : Flow → Shared → Prop) (E : Value → Shared → Prop) (hp : Heap) (gs : Array GenState) (dr : Drawn) (tks : Nat) (os : OsState) (m : Str → Option Value) (en : Addr) (du : Addr) (t1 : Tok) (t2 : Tok) (t3 : Tok) (tb : Addr) (oTab : Obj) (oT : Obj) (oF : Obj) (oS : Obj) (oP : Obj) (rest : Led) (news : Led) (kvs : List (Int × Value)) (es : List Ent) (oE : Obj) (kvsE : List (Int × Value)) : Prop :=
  ∀ (B : Below callerA h₀ [] h₀), ∀ (X : (hd.heap_1 w.params).In h₀), ∀ (T : Top hview (looseW hview [Str.ofString "PaperError"]) mean mg mb h₀), ∀ (hE : PassesOwn (model PySem.Challenge.rw_og0136_01.row.prog w) (callerA.deeper (lawE L fa ccd)) (lawE L fa ccd) E), ∀ (F9 : Fr h₀ L hp (upd [(Str.ofString "entries", some (.ref en)), (Str.ofString "due", some (.ref du))] m)), ∀ (N9 : News h₀ L hp news), ∀ (K : Core w L pen news tb oTab oT oF oS oP rest kvs es), ∀ (hEn : EntTab w rest en oE kvsE es), ∀ (hdu : (du, tup3 (mixN es) (topOne es : Nat) (topTwo es : Nat) t1 t2 t3) ∈ rest), ∀ (next : ∀ h tk, Inv12 w h₀ L pen h → wpAny (model PySem.Challenge.rw_og0136_01.row.prog w) (callerA.deeper (lawE L fa ccd)) (lawT 12 L fa ccd) Q E (⟨h, gs, dr, tk, os⟩ : Shared)), wpAny (model PySem.Challenge.rw_og0136_01.row.prog w) (callerA.deeper (lawE L fa ccd)) (lawT 10 L fa ccd) Q E ⟨hp, gs, dr, tks, os⟩
noncomputable def Zst8.c : (World) × (Heap) × (Addr) × (Addr) × (Addr) × (Value) × (ExcName → Option Value) × (Str → Option Value) × (Str → Option Value) × (Flow → Shared → Prop) × (Value → Shared → Prop) × (Heap) × (Array GenState) × (Drawn) × (Nat) × (OsState) × (Str → Option Value) × (Addr) × (Addr) × (Tok) × (Tok) × (Tok) × (Addr) × (Obj) × (Obj) × (Obj) × (Obj) × (Obj) × (Led) × (Led) × (List (Int × Value)) × (List Ent) × (Obj) × (List (Int × Value)) :=
  @Classical.epsilon _ ⟨((aWorld 0 : World), (default : Heap), (default : Addr), (default : Addr), (default : Addr), (default : Value), (fun _ => none : ExcName → Option Value), (fun _ => none : Str → Option Value), (fun _ => none : Str → Option Value), (fun _ _ => True : Flow → Shared → Prop), (fun _ _ => True : Value → Shared → Prop), (default : Heap), (#[] : Array GenState), ({} : Drawn), (default : Nat), ({} : OsState), (fun _ => none : Str → Option Value), (default : Addr), (default : Addr), (default : Tok), (default : Tok), (default : Tok), (default : Addr), (default : Obj), (default : Obj), (default : Obj), (default : Obj), (default : Obj), (default : Led), (default : Led), (default : List (Int × Value)), (default : List Ent), (default : Obj), (default : List (Int × Value)))⟩ fun x => ¬ Zst8.G (x.1) (x.2.1) (x.2.2.1) (x.2.2.2.1) (x.2.2.2.2.1) (x.2.2.2.2.2.1) (x.2.2.2.2.2.2.1) (x.2.2.2.2.2.2.2.1) (x.2.2.2.2.2.2.2.2.1) (x.2.2.2.2.2.2.2.2.2.1) (x.2.2.2.2.2.2.2.2.2.2.1) (x.2.2.2.2.2.2.2.2.2.2.2.1) (x.2.2.2.2.2.2.2.2.2.2.2.2.1) (x.2.2.2.2.2.2.2.2.2.2.2.2.2.1) (x.2.2.2.2.2.2.2.2.2.2.2.2.2.2.1) (x.2.2.2.2.2.2.2.2.2.2.2.2.2.2.2.1) (x.2.2.2.2.2.2.2.2.2.2.2.2.2.2.2.2.1) (x.2.2.2.2.2.2.2.2.2.2.2.2.2.2.2.2.2.1) (x.2.2.2.2.2.2.2.2.2.2.2.2.2.2.2.2.2.2.1) (x.2.2.2.2.2.2.2.2.2.2.2.2.2.2.2.2.2.2.2.1) (x.2.2.2.2.2.2.2.2.2.2.2.2.2.2.2.2.2.2.2.2.1) (x.2.2.2.2.2.2.2.2.2.2.2.2.2.2.2.2.2.2.2.2.2.1) (x.2.2.2.2.2.2.2.2.2.2.2.2.2.2.2.2.2.2.2.2.2.2.1) (x.2.2.2.2.2.2.2.2.2.2.2.2.2.2.2.2.2.2.2.2.2.2.2.1) (x.2.2.2.2.2.2.2.2.2.2.2.2.2.2.2.2.2.2.2.2.2.2.2.2.1) (x.2.2.2.2.2.2.2.2.2.2.2.2.2.2.2.2.2.2.2.2.2.2.2.2.2.1) (x.2.2.2.2.2.2.2.2.2.2.2.2.2.2.2.2.2.2.2.2.2.2.2.2.2.2.1) (x.2.2.2.2.2.2.2.2.2.2.2.2.2.2.2.2.2.2.2.2.2.2.2.2.2.2.2.1) (x.2.2.2.2.2.2.2.2.2.2.2.2.2.2.2.2.2.2.2.2.2.2.2.2.2.2.2.2.1) (x.2.2.2.2.2.2.2.2.2.2.2.2.2.2.2.2.2.2.2.2.2.2.2.2.2.2.2.2.2.1) (x.2.2.2.2.2.2.2.2.2.2.2.2.2.2.2.2.2.2.2.2.2.2.2.2.2.2.2.2.2.2.1) (x.2.2.2.2.2.2.2.2.2.2.2.2.2.2.2.2.2.2.2.2.2.2.2.2.2.2.2.2.2.2.2.1) (x.2.2.2.2.2.2.2.2.2.2.2.2.2.2.2.2.2.2.2.2.2.2.2.2.2.2.2.2.2.2.2.2.1) (x.2.2.2.2.2.2.2.2.2.2.2.2.2.2.2.2.2.2.2.2.2.2.2.2.2.2.2.2.2.2.2.2.2)
noncomputable def Zst8.V.w : World := Zst8.c.1
noncomputable def Zst8.V.h₀ : Heap := Zst8.c.2.1
noncomputable def Zst8.V.L : Addr := Zst8.c.2.2.1
noncomputable def Zst8.V.fa : Addr := Zst8.c.2.2.2.1
noncomputable def Zst8.V.pen : Addr := Zst8.c.2.2.2.2.1
noncomputable def Zst8.V.ccd : Value := Zst8.c.2.2.2.2.2.1
noncomputable def Zst8.V.mean : ExcName → Option Value := Zst8.c.2.2.2.2.2.2.1
noncomputable def Zst8.V.mg : Str → Option Value := Zst8.c.2.2.2.2.2.2.2.1
noncomputable def Zst8.V.mb : Str → Option Value := Zst8.c.2.2.2.2.2.2.2.2.1
noncomputable def Zst8.V.Q : Flow → Shared → Prop := Zst8.c.2.2.2.2.2.2.2.2.2.1
noncomputable def Zst8.V.E : Value → Shared → Prop := Zst8.c.2.2.2.2.2.2.2.2.2.2.1
noncomputable def Zst8.V.hp : Heap := Zst8.c.2.2.2.2.2.2.2.2.2.2.2.1
noncomputable def Zst8.V.gs : Array GenState := Zst8.c.2.2.2.2.2.2.2.2.2.2.2.2.1
noncomputable def Zst8.V.dr : Drawn := Zst8.c.2.2.2.2.2.2.2.2.2.2.2.2.2.1
noncomputable def Zst8.V.tks : Nat := Zst8.c.2.2.2.2.2.2.2.2.2.2.2.2.2.2.1
noncomputable def Zst8.V.os : OsState := Zst8.c.2.2.2.2.2.2.2.2.2.2.2.2.2.2.2.1
noncomputable def Zst8.V.m : Str → Option Value := Zst8.c.2.2.2.2.2.2.2.2.2.2.2.2.2.2.2.2.1
noncomputable def Zst8.V.en : Addr := Zst8.c.2.2.2.2.2.2.2.2.2.2.2.2.2.2.2.2.2.1
noncomputable def Zst8.V.du : Addr := Zst8.c.2.2.2.2.2.2.2.2.2.2.2.2.2.2.2.2.2.2.1
noncomputable def Zst8.V.t1 : Tok := Zst8.c.2.2.2.2.2.2.2.2.2.2.2.2.2.2.2.2.2.2.2.1
noncomputable def Zst8.V.t2 : Tok := Zst8.c.2.2.2.2.2.2.2.2.2.2.2.2.2.2.2.2.2.2.2.2.1
noncomputable def Zst8.V.t3 : Tok := Zst8.c.2.2.2.2.2.2.2.2.2.2.2.2.2.2.2.2.2.2.2.2.2.1
noncomputable def Zst8.V.tb : Addr := Zst8.c.2.2.2.2.2.2.2.2.2.2.2.2.2.2.2.2.2.2.2.2.2.2.1
noncomputable def Zst8.V.oTab : Obj := Zst8.c.2.2.2.2.2.2.2.2.2.2.2.2.2.2.2.2.2.2.2.2.2.2.2.1
noncomputable def Zst8.V.oT : Obj := Zst8.c.2.2.2.2.2.2.2.2.2.2.2.2.2.2.2.2.2.2.2.2.2.2.2.2.1
noncomputable def Zst8.V.oF : Obj := Zst8.c.2.2.2.2.2.2.2.2.2.2.2.2.2.2.2.2.2.2.2.2.2.2.2.2.2.1
noncomputable def Zst8.V.oS : Obj := Zst8.c.2.2.2.2.2.2.2.2.2.2.2.2.2.2.2.2.2.2.2.2.2.2.2.2.2.2.1
noncomputable def Zst8.V.oP : Obj := Zst8.c.2.2.2.2.2.2.2.2.2.2.2.2.2.2.2.2.2.2.2.2.2.2.2.2.2.2.2.1
noncomputable def Zst8.V.rest : Led := Zst8.c.2.2.2.2.2.2.2.2.2.2.2.2.2.2.2.2.2.2.2.2.2.2.2.2.2.2.2.2.1
noncomputable def Zst8.V.news : Led := Zst8.c.2.2.2.2.2.2.2.2.2.2.2.2.2.2.2.2.2.2.2.2.2.2.2.2.2.2.2.2.2.1
noncomputable def Zst8.V.kvs : List (Int × Value) := Zst8.c.2.2.2.2.2.2.2.2.2.2.2.2.2.2.2.2.2.2.2.2.2.2.2.2.2.2.2.2.2.2.1
noncomputable def Zst8.V.es : List Ent := Zst8.c.2.2.2.2.2.2.2.2.2.2.2.2.2.2.2.2.2.2.2.2.2.2.2.2.2.2.2.2.2.2.2.1
noncomputable def Zst8.V.oE : Obj := Zst8.c.2.2.2.2.2.2.2.2.2.2.2.2.2.2.2.2.2.2.2.2.2.2.2.2.2.2.2.2.2.2.2.2.1
noncomputable def Zst8.V.kvsE : List (Int × Value) := Zst8.c.2.2.2.2.2.2.2.2.2.2.2.2.2.2.2.2.2.2.2.2.2.2.2.2.2.2.2.2.2.2.2.2.2
section
open Zst8.V
set_option maxHeartbeats 8000000 in
theorem Zst8.main : Zst8.G Zst8.V.w Zst8.V.h₀ Zst8.V.L Zst8.V.fa Zst8.V.pen Zst8.V.ccd Zst8.V.mean Zst8.V.mg Zst8.V.mb Zst8.V.Q Zst8.V.E Zst8.V.hp Zst8.V.gs Zst8.V.dr Zst8.V.tks Zst8.V.os Zst8.V.m Zst8.V.en Zst8.V.du Zst8.V.t1 Zst8.V.t2 Zst8.V.t3 Zst8.V.tb Zst8.V.oTab Zst8.V.oT Zst8.V.oF Zst8.V.oS Zst8.V.oP Zst8.V.rest Zst8.V.news Zst8.V.kvs Zst8.V.es Zst8.V.oE Zst8.V.kvsE := by
  unfold Zst8.G
  k_fill
  intro B X T hE F9 N9 K hEn hdu next
  have dT := K.cells.cT
  have hmT := K.inTab
  have hmC := K.inT
  have lo := K.lo
  have hdT := K.dict
  have hkl : kvs.length = es.length := K.tups.length
  have hes := K.six
  try dsimp only at F9 N9
  simp only [upd] at F9
  dsimp only [lawE, lawT, lawB, List.drop] at hE ⊢
  try k_fold
  ((repeat' ( (fail_if_success (with_reducible show wpAny _ _ (execs (Stmt.For (PySem.Expr.Name (Str.ofString "turn") _) _ _ _ _ :: _) _) _ _ _)); (fail_if_success (with_reducible show wpAny _ _ (call (Value.ref 49) _) _ _ _)); (fail_if_success (with_reducible show wpAny _ _ (pyIter (Value.ref _)) _ _ _)); (first | (k_unfold; (try dsimp only)) | (k_end; wrow_close) | ((with_reducible show wpAny _ _ (exec (Stmt.For _ _ _ _ _) _) _ _ _); (k_here; (rename Fr _ _ _ _ => lF'); (with_unfolding_all refine' For_turns (hE := ?hE) lF' ?_); (case hE => assumption); k_whole)) | walk1 | (dsimp only; walk1) | (leave1; walk_say "STEP leave1"; try dsimp only) | fail "no step"))); all_goals (try k_fold))
  (rename News _ _ _ _ => lN')
  (rename (∀ (p : Addr × Obj), p ∈ news → _) => v1)
  obtain ⟨ru, eru, -⟩ := led_1 lN'
  subst eru

  refine' does_use (ro_does w ((ru, W.listOf #[] 0) :: news) tb oTab kvs (.tail _ hmT) hdT lo (by omega) (by rw [K.tups.keys]; exact K.tbl.sorted)) ?k1 ?k2 ?k3 ?k4 ?k5 ?k6 ?k7 ?k8 ?_
  walk_at "MY call"
  rintro v9 news9 h9 tk9 ⟨R, its, ep, rest9, rs, rfl, rfl, hin, hR, hrs, hkeys, hpos⟩ F8 N8
  clear lN'
  try k_fold
  ((repeat' ( (fail_if_success (with_reducible show wpAny _ _ (execs (Stmt.For (PySem.Expr.Name (Str.ofString "turn") _) _ _ _ _ :: _) _) _ _ _)); (fail_if_success (with_reducible show wpAny _ _ (call (Value.ref 49) _) _ _ _)); (fail_if_success (with_reducible show wpAny _ _ (pyIter (Value.ref _)) _ _ _)); (first | (k_unfold; (try dsimp only)) | (k_end; wrow_close) | ((with_reducible show wpAny _ _ (exec (Stmt.For _ _ _ _ _) _) _ _ _); (k_here; (rename Fr _ _ _ _ => lF'); (with_unfolding_all refine' For_turns (hE := ?hE) lF' ?_); (case hE => assumption); k_whole)) | walk1 | (dsimp only; walk1) | (leave1; walk_say "STEP leave1"; try dsimp only) | fail "no step"))); all_goals (try k_fold))
  have hrl : rs.length ≤ 6 := by
    have h1 := runKeys_len hpos
    rw [hkeys, K.tups.keys, List.length_map] at h1
    omega
  refine iter_listT (fun m₀ i m₁ l => ∃ rvs er ru', (ru', W.listOf (List.toArray rvs) er) ∈ l ∧ IntsAre rvs (flat (rs.take i)) ∧ (∀ p ∈ rest9, p ∈ l) ∧ (∀ p ∈ news, @LT.lt Nat _ p.1 ru') ∧
    Like (Str.ofString "begun") m₀ m₁ [(Str.ofString "many", m₁ (Str.ofString "many")), (Str.ofString "runs", some (.ref ru'))]) rfl F8 N8 (.head _) ⟨[], 0, ru, .tail _ (hin _ (.head _)), .nil, fun p hp => .tail _ hp, v1, Like.start ⟨rfl, rfl, trivial⟩⟩ ?_ ?_
  · rintro i v m₁ news₁ I oI h tk QT hQT hi ⟨rvs, er, ru', m1, hI, sub, v2, hL⟩ hm1 ho F₁ N₁
    have F₂ := hL.out F₁
    simp only [upd] at F₂
    obtain ⟨r, hr, t, ta, tb', rfl, hmt⟩ := hrs.get (by simpa using hi)
    have hmt' := sub _ hmt
    have hrv : rvs.length ≤ 100 := by
      rw [hI.length, flat_length, List.length_take]
      omega
    clear F8 N8 F₁
    try k_fold
    ((repeat' ( (fail_if_success (with_reducible show wpAny _ _ (execs (Stmt.For (PySem.Expr.Name (Str.ofString "turn") _) _ _ _ _ :: _) _) _ _ _)); (fail_if_success (with_reducible show wpAny _ _ (call (Value.ref 49) _) _ _ _)); (fail_if_success (with_reducible show wpAny _ _ (pyIter (Value.ref _)) _ _ _)); (first | (k_unfold; (try dsimp only)) | (k_end; wrow_close) | ((with_reducible show wpAny _ _ (exec (Stmt.For _ _ _ _ _) _) _ _ _); (k_here; (rename Fr _ _ _ _ => lF'); (with_unfolding_all refine' For_turns (hE := ?hE) lF' ?_); (case hE => assumption); k_whole)) | walk1 | (dsimp only; walk1) | (leave1; walk_say "STEP leave1"; try dsimp only) | fail "no step"))); all_goals (try k_fold))
    (rename Fr _ _ _ _ => lF')
    (rename News _ _ _ _ => lN')
    (rename (_ ∧ AllLt _ _) => la)
    obtain ⟨l2, el2, -⟩ := led_1 lN'
    subst el2
    refine kmk_add_ints lF' lN' (vs := rvs) (ws := [.int r.1 ta, .int r.2 tb']) (ns := flat (rs.take i)) (ms := [r.1, r.2]) (PySem.IsL.isList (n := er) (lN' _ (.tail _ (.tail _ m1))).1) (PySem.IsL.isList (n := 0) (lN' _ (.head _)).1) hI (.cons _ _ (.cons _ _ .nil)) ?_ ?z
    case z => rw [flat_length, sizeLine_eq, List.length_take]; show _ + 2 ≤ _; omega
    intro D us h' F₃ N₃ l3 hu
    clear lF' lN'
    try k_fold
    ((repeat' ( (fail_if_success (with_reducible show wpAny _ _ (execs (Stmt.For (PySem.Expr.Name (Str.ofString "turn") _) _ _ _ _ :: _) _) _ _ _)); (fail_if_success (with_reducible show wpAny _ _ (call (Value.ref 49) _) _ _ _)); (fail_if_success (with_reducible show wpAny _ _ (pyIter (Value.ref _)) _ _ _)); (first | (k_unfold; (try dsimp only)) | (k_end; wrow_close) | ((with_reducible show wpAny _ _ (exec (Stmt.For _ _ _ _ _) _) _ _ _); (k_here; (rename Fr _ _ _ _ => lF'); (with_unfolding_all refine' For_turns (hE := ?hE) lF' ?_); (case hE => assumption); k_whole)) | walk1 | (dsimp only; walk1) | (leave1; walk_say "STEP leave1"; try dsimp only) | fail "no step"))); all_goals (try k_fold))
    (rename Fr _ _ _ _ => lF')
    (rename News _ _ _ _ => lN')
    have hfl : flat (rs.take (i + 1)) = flat (rs.take i) ++ [r.1, r.2] := by
      rw [List.take_add_one, hr]
      unfold flat
      rw [List.flatMap_append]
      rfl
    have lt3 : ∀ p ∈ news₁, @LT.lt Nat _ p.1 D := fun p hp => l3 p (.tail _ (.tail _ hp))
    have iD : @LT.lt Nat _ I D := l3 (I, oI) (.tail _ (.head _))
    exact hQT _ _ <| TurnEnd.next lF' (news_sub lN' (news' := (I, oI) :: (D, W.listOf us.toArray 0) :: news₁) (by walk_at "MY sub")) (fun p hp => by rw [List.mem_singleton.mp hp]; exact .tail _ hm1) (List.forall_mem_cons.mpr ⟨Nat.ne_of_gt iD, ho⟩)
      ⟨us, 0, D, .head _, by rw [hfl]; exact hu, fun p hp => .tail _ (sub p hp), fun p hp => lt3 p (sub p (hin p (.tail _ hp))), ⟨rfl, rfl, trivial⟩, fun z hx hz => by simp only [Off] at hz; simp [hx, hz]⟩
  · rintro h tk m' news' ⟨rvs, er, ru', m1, hI, sub, v2, hL⟩ hm1 F₁ N₁
    have F₂ := hL.out F₁
    rw [List.size_toArray, hrs.length, List.take_length] at hI
    dsimp only
    obtain ⟨news2, K', i1, i2⟩ := K.more (ru', W.listOf rvs.toArray er) v2
    refine next _ _ ⟨_, en, du, ru', _, _, _, tb, oTab, oT, oF, oS, oP, _, news2, kvs, es, oE, kvsE, fr_upd _ F₂ ⟨rfl, rfl, rfl, trivial⟩, news_sub N₁ (fun p hp => ?_), K', hEn.mono fun p hp => .tail _ hp, .tail _ hdu, ⟨rvs, er, rs, .head _, hI, hkeys.trans K.tups.keys, hpos⟩⟩
    rcases List.mem_cons.mp (i1 p hp) with h | h
    · rw [h]; exact m1
    · exact sub p (hin p (.tail _ h))
end
theorem st8 : ∀ (w : World) (h₀ : Heap) (L fa pen : Addr) (ccd : Value) (mean : ExcName → Option Value) (mg mb : Str → Option Value) (Q : Flow → Shared → Prop) (E : Value → Shared → Prop) (s : Shared)
    (B : Below callerA h₀ [] h₀) (X : (hd.heap_1 w.params).In h₀) (T : Top hview (looseW hview [Str.ofString "PaperError"]) mean mg mb h₀)
    (hE : PassesOwn (model PySem.Challenge.rw_og0136_01.row.prog w) (callerA.deeper (lawE L fa ccd)) (lawE L fa ccd) E)
    (I5 : Inv10 w h₀ L pen s.heap) (next : ∀ h tk, Inv12 w h₀ L pen h → wpAny (model PySem.Challenge.rw_og0136_01.row.prog w) (callerA.deeper (lawE L fa ccd)) (lawT 12 L fa ccd) Q E { s with heap := h, toks := tk }),
    wpAny (model PySem.Challenge.rw_og0136_01.row.prog w) (callerA.deeper (lawE L fa ccd)) (lawT 10 L fa ccd) Q E s := by
  intro w h₀ L fa pen ccd mean mg mb Q E s B X T hE I5 next
  obtain ⟨m, en, du, t1, t2, t3, tb, oTab, oT, oF, oS, oP, rest, news, kvs, es, oE, kvsE, F9, N9, K, hEn, hdu⟩ := I5
  obtain ⟨hp, gs, dr, tks, os⟩ := s
  exact (Classical.byContradiction fun hn => @Classical.epsilon_spec _ (fun x : (World) × (Heap) × (Addr) × (Addr) × (Addr) × (Value) × (ExcName → Option Value) × (Str → Option Value) × (Str → Option Value) × (Flow → Shared → Prop) × (Value → Shared → Prop) × (Heap) × (Array GenState) × (Drawn) × (Nat) × (OsState) × (Str → Option Value) × (Addr) × (Addr) × (Tok) × (Tok) × (Tok) × (Addr) × (Obj) × (Obj) × (Obj) × (Obj) × (Obj) × (Led) × (Led) × (List (Int × Value)) × (List Ent) × (Obj) × (List (Int × Value)) => ¬ Zst8.G (x.1) (x.2.1) (x.2.2.1) (x.2.2.2.1) (x.2.2.2.2.1) (x.2.2.2.2.2.1) (x.2.2.2.2.2.2.1) (x.2.2.2.2.2.2.2.1) (x.2.2.2.2.2.2.2.2.1) (x.2.2.2.2.2.2.2.2.2.1) (x.2.2.2.2.2.2.2.2.2.2.1) (x.2.2.2.2.2.2.2.2.2.2.2.1) (x.2.2.2.2.2.2.2.2.2.2.2.2.1) (x.2.2.2.2.2.2.2.2.2.2.2.2.2.1) (x.2.2.2.2.2.2.2.2.2.2.2.2.2.2.1) (x.2.2.2.2.2.2.2.2.2.2.2.2.2.2.2.1) (x.2.2.2.2.2.2.2.2.2.2.2.2.2.2.2.2.1) (x.2.2.2.2.2.2.2.2.2.2.2.2.2.2.2.2.2.1) (x.2.2.2.2.2.2.2.2.2.2.2.2.2.2.2.2.2.2.1) (x.2.2.2.2.2.2.2.2.2.2.2.2.2.2.2.2.2.2.2.1) (x.2.2.2.2.2.2.2.2.2.2.2.2.2.2.2.2.2.2.2.2.1) (x.2.2.2.2.2.2.2.2.2.2.2.2.2.2.2.2.2.2.2.2.2.1) (x.2.2.2.2.2.2.2.2.2.2.2.2.2.2.2.2.2.2.2.2.2.2.1) (x.2.2.2.2.2.2.2.2.2.2.2.2.2.2.2.2.2.2.2.2.2.2.2.1) (x.2.2.2.2.2.2.2.2.2.2.2.2.2.2.2.2.2.2.2.2.2.2.2.2.1) (x.2.2.2.2.2.2.2.2.2.2.2.2.2.2.2.2.2.2.2.2.2.2.2.2.2.1) (x.2.2.2.2.2.2.2.2.2.2.2.2.2.2.2.2.2.2.2.2.2.2.2.2.2.2.1) (x.2.2.2.2.2.2.2.2.2.2.2.2.2.2.2.2.2.2.2.2.2.2.2.2.2.2.2.1) (x.2.2.2.2.2.2.2.2.2.2.2.2.2.2.2.2.2.2.2.2.2.2.2.2.2.2.2.2.1) (x.2.2.2.2.2.2.2.2.2.2.2.2.2.2.2.2.2.2.2.2.2.2.2.2.2.2.2.2.2.1) (x.2.2.2.2.2.2.2.2.2.2.2.2.2.2.2.2.2.2.2.2.2.2.2.2.2.2.2.2.2.2.1) (x.2.2.2.2.2.2.2.2.2.2.2.2.2.2.2.2.2.2.2.2.2.2.2.2.2.2.2.2.2.2.2.1) (x.2.2.2.2.2.2.2.2.2.2.2.2.2.2.2.2.2.2.2.2.2.2.2.2.2.2.2.2.2.2.2.2.1) (x.2.2.2.2.2.2.2.2.2.2.2.2.2.2.2.2.2.2.2.2.2.2.2.2.2.2.2.2.2.2.2.2.2)) ⟨(w, h₀, L, fa, pen, ccd, mean, mg, mb, Q, E, hp, gs, dr, tks, os, m, en, du, t1, t2, t3, tb, oTab, oT, oF, oS, oP, rest, news, kvs, es, oE, kvsE), hn⟩ Zst8.main) B X T hE F9 N9 K hEn hdu next
end Mine
end
section
open PyProof.V PySem.SeqAt
namespace Mine
section
variable {w : World} {A : Around} {s : Shared} {h₀ : Heap} {L : Addr} {news : Led}
theorem tup_reads (N : News h₀ L s.heap news) {x : Addr} {e : Ent} (h : TupAt news x e) : Reads s.heap (.ref x) (.tuple [.str e.way, .int e.one, .int e.two]) [] := by
  obtain ⟨a1, a2, a3, hm⟩ := h
  exact reads_tuple_at (xs := [.str e.way, .int e.one, .int e.two]) (as := []) (N _ hm).1 rfl rfl (readsAll_cons_val (.str _ _) (readsAll_cons_val (.int _ _) (readsAll_cons_val (.int _ _) .nil)))
theorem way_shaped {x : Str} (h : IsWay x) (a b : Int) : SeqAt.shaped (.tuple [.str x, .int a, .int b]) = true := by
  have e : PyData.strOk x = true := by rcases h with rfl | rfl | rfl <;> decide +kernel
  simp [SeqAt.shaped, PyData.canLay0, PyData.canLayAll0, PyData.depth, PyData.depthAll, e]
theorem tup_eq (N : News h₀ L s.heap news) {x y : Addr} {e : Ent} (h1 : TupAt news x e) (h2 : TupAt news y e) (hw : IsWay e.way) (hu : A.in1.units + 64 < cLine) : SeqAt.EqAt A.in1 s (.ref x) (.ref y) true := by
  have h := keq_at (A := A) (tup_reads N h1) (tup_reads N h2) (way_shaped hw _ _) (way_shaped hw _ _) hu
  have e2 : PyData.eqv (.tuple [.str e.way, .int e.one, .int e.two]) (.tuple [.str e.way, .int e.one, .int e.two]) = true := by simp [PyData.eqv, PyData.eqvAll]
  rw [e2] at h
  exact h
theorem TupsAt.look {rest : Led} {kvs : List (Int × Value)} {es : List Ent} (h : TupsAt rest kvs es) (hn : (kvs.map (·.1)).Nodup) : ∀ e ∈ es, ∃ x, valueAt kvs e.key = some (.ref x) ∧ TupAt rest x e := by
  intro e he
  obtain ⟨i, hi⟩ := List.mem_iff_getElem?.mp he
  have hl : i < kvs.length := by
    rw [h.length]
    rcases Nat.lt_or_ge i es.length with q | q
    · exact q
    · rw [List.getElem?_eq_none q] at hi; cases hi
  obtain ⟨⟨k, y⟩, hk⟩ : ∃ p, kvs[i]? = some p := ⟨_, List.getElem?_eq_getElem hl⟩
  obtain ⟨e', x, he', rfl, rfl, ht⟩ := h.get hk
  rw [hi] at he'
  cases he'
  exact ⟨x, valueAt_of_get hn hk, ht⟩
theorem tups_hits (N : News h₀ L s.heap news) {kb : List (Int × Value)} (hu : A.in1.units + 64 < cLine) {R : Led} (hR : ∀ p ∈ R, p ∈ news) {prs : List (Int × Value)} {es : List Ent} (h : TupsAt R prs es) (hb : ∀ e ∈ es, ∃ x, valueAt kb e.key = some (.ref x) ∧ TupAt news x e) (hw : ∀ e ∈ es, IsWay e.way) :
    KeqHits A.in1 s kb prs true := by
  induction h with
  | nil => exact .nil
  | cons a _ ih =>
    obtain ⟨x, hx, ht⟩ := hb _ (.head _)
    exact KeqHits.hit (e := true) (b := true) hx (tup_eq N (a.mono hR) ht (hw _ (.head _)) hu) (ih (fun e he => hb e (.tail _ he)) fun e he => hw e (.tail _ he))
end
end Mine
end
section
theorem Mine.offL9 : True := by w_top off; trivial
namespace Mine
/-- widths none to three wider -/
noncomputable def Wd (ds ns : List Int) : Prop := ns.length = ds.length ∧ ∀ (j : Nat) d k, ds[j]? = some d → ns[j]? = some k → d ≤ k ∧ k ≤ d + 3
theorem Wd.snoc {ds ns : List Int} (h : Wd ds ns) {d k : Int} (h1 : d ≤ k) (h2 : k ≤ d + 3) : Wd (ds ++ [d]) (ns ++ [k]) := by
  obtain ⟨hl, ha⟩ := h
  refine ⟨by simp [hl], fun j d' k' e1 e2 => ?_⟩
  rcases Nat.lt_trichotomy j ds.length with hj | hj | hj
  · rw [List.getElem?_append_left hj] at e1
    rw [List.getElem?_append_left (by omega)] at e2
    exact ha j d' k' e1 e2
  · subst hj
    rw [List.getElem?_append_right (Nat.le_refl _)] at e1
    rw [← hl, List.getElem?_append_right (Nat.le_refl _)] at e2
    simp at e1 e2
    omega
  · rw [List.getElem?_eq_none (by simp; omega)] at e1
    cases e1
theorem Wd.three {a b c : Int} {ns : List Int} (h : Wd [a, b, c] ns) (ha : 0 ≤ a) (hb : 0 ≤ b) (hc : 0 ≤ c) : ∃ x y z : Nat, ns = [(x : Int), (y : Int), (z : Int)] ∧ a ≤ x ∧ x ≤ a + 3 ∧ b ≤ y ∧ y ≤ b + 3 ∧ c ≤ z ∧ z ≤ c + 3 := by
  obtain ⟨hl, h⟩ := h
  match ns, hl with
  | [x, y, z], _ =>
    have h1 := h 0 a x rfl rfl
    have h2 := h 1 b y rfl rfl
    have h3 := h 2 c z rfl rfl
    obtain ⟨x', rfl⟩ := Int.eq_ofNat_of_zero_le (show 0 ≤ x by omega)
    obtain ⟨y', rfl⟩ := Int.eq_ofNat_of_zero_le (show 0 ≤ y by omega)
    obtain ⟨z', rfl⟩ := Int.eq_ofNat_of_zero_le (show 0 ≤ z by omega)
    exact ⟨x', y', z', rfl, h1.1, h1.2, h2.1, h2.2, h3.1, h3.2⟩
theorem ints_three {ys : List Value} {x y z : Int} (h : IntsAre ys [x, y, z]) : ∃ t1 t2 t3, ys = [.int x t1, .int y t2, .int z t3] := by
  cases h with
  | cons k t1 h => cases h with
    | cons k t2 h => cases h with
      | cons k t3 h => cases h; exact ⟨_, _, _, rfl⟩
theorem mix_range (es : List Ent) : 0 ≤ mixN es ∧ mixN es ≤ 1 := by unfold mixN; split <;> omega
noncomputable def Zst9.G (w : World) (h₀ : Heap) (L : Addr) (fa : Addr) (pen : Addr) (ccd : Value) (mean : ExcName → Option Value) (mg : Str → Option Value) (mb : Str → Option Value) (Q : Flow → Shared → Prop) (E : Value → Shared → Prop) (hp : Heap) (gs : Array GenState) (dr : Drawn) (tks : Nat) (os : OsState) (m : Str → Option Value) (en : Addr) (du : Addr) (ru : Addr) (t1 : Tok) (t2 : Tok) (t3 : Tok) (tb : Addr) (oTab : Obj) (oT : Obj) (oF : Obj) (oS : Obj) (oP : Obj) (rest : Led) (news : Led) (kvs : List (Int × Value)) (es : List Ent) (oE : Obj) (kvsE : List (Int × Value)) : Prop :=
  ∀ (B : Below callerA h₀ [] h₀), ∀ (X : (hd.heap_1 w.params).In h₀), ∀ (T : Top hview (looseW hview [Str.ofString "PaperError"]) mean mg mb h₀), ∀ (hE : PassesOwn (model PySem.Challenge.rw_og0136_01.row.prog w) (callerA.deeper (lawE L fa ccd)) (lawE L fa ccd) E), ∀ (F9 : Fr h₀ L hp (upd [(Str.ofString "entries", some (.ref en)), (Str.ofString "due", some (.ref du)), (Str.ofString "runs", some (.ref ru))] m)), ∀ (N9 : News h₀ L hp news), ∀ (K : Core w L pen news tb oTab oT oF oS oP rest kvs es), ∀ (hEn : EntTab w rest en oE kvsE es), ∀ (hdu : (du, tup3 (mixN es) (topOne es : Nat) (topTwo es : Nat) t1 t2 t3) ∈ rest), ∀ (hru : RunList rest ru es), ∀ (next : ∀ h tk, Inv10 w h₀ L pen h → wpAny (model PySem.Challenge.rw_og0136_01.row.prog w) (callerA.deeper (lawE L fa ccd)) (lawT 13 L fa ccd) Q E (⟨h, gs, dr, tk, os⟩ : Shared)), wpAny (model PySem.Challenge.rw_og0136_01.row.prog w) (callerA.deeper (lawE L fa ccd)) (lawT 12 L fa ccd) Q E ⟨hp, gs, dr, tks, os⟩
noncomputable def Zst9.c : (World) × (Heap) × (Addr) × (Addr) × (Addr) × (Value) × (ExcName → Option Value) × (Str → Option Value) × (Str → Option Value) × (Flow → Shared → Prop) × (Value → Shared → Prop) × (Heap) × (Array GenState) × (Drawn) × (Nat) × (OsState) × (Str → Option Value) × (Addr) × (Addr) × (Addr) × (Tok) × (Tok) × (Tok) × (Addr) × (Obj) × (Obj) × (Obj) × (Obj) × (Obj) × (Led) × (Led) × (List (Int × Value)) × (List Ent) × (Obj) × (List (Int × Value)) :=
  @Classical.epsilon _ ⟨((aWorld 0 : World), (default : Heap), (default : Addr), (default : Addr), (default : Addr), (default : Value), (fun _ => none : ExcName → Option Value), (fun _ => none : Str → Option Value), (fun _ => none : Str → Option Value), (fun _ _ => True : Flow → Shared → Prop), (fun _ _ => True : Value → Shared → Prop), (default : Heap), (#[] : Array GenState), ({} : Drawn), (default : Nat), ({} : OsState), (fun _ => none : Str → Option Value), (default : Addr), (default : Addr), (default : Addr), (default : Tok), (default : Tok), (default : Tok), (default : Addr), (default : Obj), (default : Obj), (default : Obj), (default : Obj), (default : Obj), (default : Led), (default : Led), (default : List (Int × Value)), (default : List Ent), (default : Obj), (default : List (Int × Value)))⟩ fun x => ¬ Zst9.G (x.1) (x.2.1) (x.2.2.1) (x.2.2.2.1) (x.2.2.2.2.1) (x.2.2.2.2.2.1) (x.2.2.2.2.2.2.1) (x.2.2.2.2.2.2.2.1) (x.2.2.2.2.2.2.2.2.1) (x.2.2.2.2.2.2.2.2.2.1) (x.2.2.2.2.2.2.2.2.2.2.1) (x.2.2.2.2.2.2.2.2.2.2.2.1) (x.2.2.2.2.2.2.2.2.2.2.2.2.1) (x.2.2.2.2.2.2.2.2.2.2.2.2.2.1) (x.2.2.2.2.2.2.2.2.2.2.2.2.2.2.1) (x.2.2.2.2.2.2.2.2.2.2.2.2.2.2.2.1) (x.2.2.2.2.2.2.2.2.2.2.2.2.2.2.2.2.1) (x.2.2.2.2.2.2.2.2.2.2.2.2.2.2.2.2.2.1) (x.2.2.2.2.2.2.2.2.2.2.2.2.2.2.2.2.2.2.1) (x.2.2.2.2.2.2.2.2.2.2.2.2.2.2.2.2.2.2.2.1) (x.2.2.2.2.2.2.2.2.2.2.2.2.2.2.2.2.2.2.2.2.1) (x.2.2.2.2.2.2.2.2.2.2.2.2.2.2.2.2.2.2.2.2.2.1) (x.2.2.2.2.2.2.2.2.2.2.2.2.2.2.2.2.2.2.2.2.2.2.1) (x.2.2.2.2.2.2.2.2.2.2.2.2.2.2.2.2.2.2.2.2.2.2.2.1) (x.2.2.2.2.2.2.2.2.2.2.2.2.2.2.2.2.2.2.2.2.2.2.2.2.1) (x.2.2.2.2.2.2.2.2.2.2.2.2.2.2.2.2.2.2.2.2.2.2.2.2.2.1) (x.2.2.2.2.2.2.2.2.2.2.2.2.2.2.2.2.2.2.2.2.2.2.2.2.2.2.1) (x.2.2.2.2.2.2.2.2.2.2.2.2.2.2.2.2.2.2.2.2.2.2.2.2.2.2.2.1) (x.2.2.2.2.2.2.2.2.2.2.2.2.2.2.2.2.2.2.2.2.2.2.2.2.2.2.2.2.1) (x.2.2.2.2.2.2.2.2.2.2.2.2.2.2.2.2.2.2.2.2.2.2.2.2.2.2.2.2.2.1) (x.2.2.2.2.2.2.2.2.2.2.2.2.2.2.2.2.2.2.2.2.2.2.2.2.2.2.2.2.2.2.1) (x.2.2.2.2.2.2.2.2.2.2.2.2.2.2.2.2.2.2.2.2.2.2.2.2.2.2.2.2.2.2.2.1) (x.2.2.2.2.2.2.2.2.2.2.2.2.2.2.2.2.2.2.2.2.2.2.2.2.2.2.2.2.2.2.2.2.1) (x.2.2.2.2.2.2.2.2.2.2.2.2.2.2.2.2.2.2.2.2.2.2.2.2.2.2.2.2.2.2.2.2.2.1) (x.2.2.2.2.2.2.2.2.2.2.2.2.2.2.2.2.2.2.2.2.2.2.2.2.2.2.2.2.2.2.2.2.2.2)
noncomputable def Zst9.V.w : World := Zst9.c.1
noncomputable def Zst9.V.h₀ : Heap := Zst9.c.2.1
noncomputable def Zst9.V.L : Addr := Zst9.c.2.2.1
noncomputable def Zst9.V.fa : Addr := Zst9.c.2.2.2.1
noncomputable def Zst9.V.pen : Addr := Zst9.c.2.2.2.2.1
noncomputable def Zst9.V.ccd : Value := Zst9.c.2.2.2.2.2.1
noncomputable def Zst9.V.mean : ExcName → Option Value := Zst9.c.2.2.2.2.2.2.1
noncomputable def Zst9.V.mg : Str → Option Value := Zst9.c.2.2.2.2.2.2.2.1
noncomputable def Zst9.V.mb : Str → Option Value := Zst9.c.2.2.2.2.2.2.2.2.1
noncomputable def Zst9.V.Q : Flow → Shared → Prop := Zst9.c.2.2.2.2.2.2.2.2.2.1
noncomputable def Zst9.V.E : Value → Shared → Prop := Zst9.c.2.2.2.2.2.2.2.2.2.2.1
noncomputable def Zst9.V.hp : Heap := Zst9.c.2.2.2.2.2.2.2.2.2.2.2.1
noncomputable def Zst9.V.gs : Array GenState := Zst9.c.2.2.2.2.2.2.2.2.2.2.2.2.1
noncomputable def Zst9.V.dr : Drawn := Zst9.c.2.2.2.2.2.2.2.2.2.2.2.2.2.1
noncomputable def Zst9.V.tks : Nat := Zst9.c.2.2.2.2.2.2.2.2.2.2.2.2.2.2.1
noncomputable def Zst9.V.os : OsState := Zst9.c.2.2.2.2.2.2.2.2.2.2.2.2.2.2.2.1
noncomputable def Zst9.V.m : Str → Option Value := Zst9.c.2.2.2.2.2.2.2.2.2.2.2.2.2.2.2.2.1
noncomputable def Zst9.V.en : Addr := Zst9.c.2.2.2.2.2.2.2.2.2.2.2.2.2.2.2.2.2.1
noncomputable def Zst9.V.du : Addr := Zst9.c.2.2.2.2.2.2.2.2.2.2.2.2.2.2.2.2.2.2.1
noncomputable def Zst9.V.ru : Addr := Zst9.c.2.2.2.2.2.2.2.2.2.2.2.2.2.2.2.2.2.2.2.1
noncomputable def Zst9.V.t1 : Tok := Zst9.c.2.2.2.2.2.2.2.2.2.2.2.2.2.2.2.2.2.2.2.2.1
noncomputable def Zst9.V.t2 : Tok := Zst9.c.2.2.2.2.2.2.2.2.2.2.2.2.2.2.2.2.2.2.2.2.2.1
noncomputable def Zst9.V.t3 : Tok := Zst9.c.2.2.2.2.2.2.2.2.2.2.2.2.2.2.2.2.2.2.2.2.2.2.1
noncomputable def Zst9.V.tb : Addr := Zst9.c.2.2.2.2.2.2.2.2.2.2.2.2.2.2.2.2.2.2.2.2.2.2.2.1
noncomputable def Zst9.V.oTab : Obj := Zst9.c.2.2.2.2.2.2.2.2.2.2.2.2.2.2.2.2.2.2.2.2.2.2.2.2.1
noncomputable def Zst9.V.oT : Obj := Zst9.c.2.2.2.2.2.2.2.2.2.2.2.2.2.2.2.2.2.2.2.2.2.2.2.2.2.1
noncomputable def Zst9.V.oF : Obj := Zst9.c.2.2.2.2.2.2.2.2.2.2.2.2.2.2.2.2.2.2.2.2.2.2.2.2.2.2.1
noncomputable def Zst9.V.oS : Obj := Zst9.c.2.2.2.2.2.2.2.2.2.2.2.2.2.2.2.2.2.2.2.2.2.2.2.2.2.2.2.1
noncomputable def Zst9.V.oP : Obj := Zst9.c.2.2.2.2.2.2.2.2.2.2.2.2.2.2.2.2.2.2.2.2.2.2.2.2.2.2.2.2.1
noncomputable def Zst9.V.rest : Led := Zst9.c.2.2.2.2.2.2.2.2.2.2.2.2.2.2.2.2.2.2.2.2.2.2.2.2.2.2.2.2.2.1
noncomputable def Zst9.V.news : Led := Zst9.c.2.2.2.2.2.2.2.2.2.2.2.2.2.2.2.2.2.2.2.2.2.2.2.2.2.2.2.2.2.2.1
noncomputable def Zst9.V.kvs : List (Int × Value) := Zst9.c.2.2.2.2.2.2.2.2.2.2.2.2.2.2.2.2.2.2.2.2.2.2.2.2.2.2.2.2.2.2.2.1
noncomputable def Zst9.V.es : List Ent := Zst9.c.2.2.2.2.2.2.2.2.2.2.2.2.2.2.2.2.2.2.2.2.2.2.2.2.2.2.2.2.2.2.2.2.1
noncomputable def Zst9.V.oE : Obj := Zst9.c.2.2.2.2.2.2.2.2.2.2.2.2.2.2.2.2.2.2.2.2.2.2.2.2.2.2.2.2.2.2.2.2.2.1
noncomputable def Zst9.V.kvsE : List (Int × Value) := Zst9.c.2.2.2.2.2.2.2.2.2.2.2.2.2.2.2.2.2.2.2.2.2.2.2.2.2.2.2.2.2.2.2.2.2.2
section
open Zst9.V
set_option maxHeartbeats 8000000 in
theorem Zst9.main : Zst9.G Zst9.V.w Zst9.V.h₀ Zst9.V.L Zst9.V.fa Zst9.V.pen Zst9.V.ccd Zst9.V.mean Zst9.V.mg Zst9.V.mb Zst9.V.Q Zst9.V.E Zst9.V.hp Zst9.V.gs Zst9.V.dr Zst9.V.tks Zst9.V.os Zst9.V.m Zst9.V.en Zst9.V.du Zst9.V.ru Zst9.V.t1 Zst9.V.t2 Zst9.V.t3 Zst9.V.tb Zst9.V.oTab Zst9.V.oT Zst9.V.oF Zst9.V.oS Zst9.V.oP Zst9.V.rest Zst9.V.news Zst9.V.kvs Zst9.V.es Zst9.V.oE Zst9.V.kvsE := by
  unfold Zst9.G
  k_fill
  intro B X T hE F9 N9 K hEn hdu hru next
  have lo := K.lo
  have hdT := K.dict
  have hkl : kvs.length = es.length := K.tups.length
  have hes := K.six
  try dsimp only at F9 N9
  simp only [upd] at F9
  dsimp only [lawE, lawT, lawB, List.drop] at hE ⊢
  try k_fold
  ((repeat' ( (fail_if_success (with_reducible show wpAny _ _ (execs (Stmt.For (PySem.Expr.Name (Str.ofString "spot") _) _ _ _ _ :: _) _) _ _ _)); (fail_if_success (with_reducible show wpAny _ _ (call (Value.ref 151) _) _ _ _)); (fail_if_success (with_reducible show wpAny _ _ (call (Value.builtin "sum") _) _ _ _)); (fail_if_success (with_reducible show wpAny _ _ (call (Value.type "dict") _) _ _ _)); (fail_if_success (with_reducible show wpAny _ _ (compareOp CmpOp.NotEq (Value.ref _) (Value.ref _)) _ _ _)); (fail_if_success (with_reducible show wpAny _ _ (exec (Stmt.Assign [PySem.Expr.Name _ _] (PySem.Expr.ListComp _ _ _ _) _) _) _ _ _)); (fail_if_success (with_reducible show wpAny _ _ (call (Value.ref 139) _) _ _ _)); (fail_if_success (with_reducible show wpAny _ _ (call (Value.ref 132) _) _ _ _)); (fail_if_success (with_reducible show wpAny _ _ (eval (PySem.Expr.ListComp _ _ _ _) _) _ _ _)); (fail_if_success (with_reducible show wpAny _ _ (pyIter (Value.ref _)) _ _ _)); (first | (k_unfold; (try dsimp only)) | (k_end; wrow_close) | walk1 | (dsimp only; walk1) | (leave1; walk_say "STEP leave1"; try dsimp only) | fail "no step"))); all_goals (try k_fold))
  (rename IsRange _ _ _ _ _ _ _ _ => lR)
  (rename Fr _ _ _ _ => lF')
  (rename News _ _ _ _ => lN')
  refine iter_range (n := 3) (fun m₀ i m₁ l => ∃ oF' rest', Core w L pen l tb oTab oT oF' oS oP rest' kvs es ∧ (∀ p ∈ rest, p ∈ rest') ∧
      Like (Str.ofString "turn") m₀ m₁ [(Str.ofString "widths", m₁ (Str.ofString "widths")), (Str.ofString "octets", m₁ (Str.ofString "octets"))])
    rfl lR (range_small (by omega) (by omega) (by omega) (by omega)) (by rw [range_size (by omega)]; rfl) lF' lN' ⟨oF, rest, K, fun p hp => hp, Like.start ⟨rfl, rfl, trivial⟩⟩ ?_ ?_
  · rintro i t m₁ news₁ I0 oI0 h tk QT hQT hi ⟨oF', rest', K', sub, hL⟩ ho F₁ N₁
    have F₂ := hL.turn F₁
    simp only [upd] at F₂
    have dP := K'.cells.cP
    have dT := K'.cells.cT
    obtain ⟨cF, dF⟩ := K'.cells.cF
    have hmT := K'.inTab
    have hmCT := K'.inT
    have hmCF := K'.inF
    have hmCP := K'.inP
    have hdu' := K'.inRest _ (sub _ hdu)
    obtain ⟨M, FM, hM⟩ : ∃ M, (True → Fr h₀ L h M) ∧ M = _ := ⟨_, fun _ => F₂, rfl⟩
    clear F₁ lF' lN'
    try k_fold
    ((repeat' ( (fail_if_success (with_reducible show wpAny _ _ (execs (Stmt.For (PySem.Expr.Name (Str.ofString "spot") _) _ _ _ _ :: _) _) _ _ _)); (fail_if_success (with_reducible show wpAny _ _ (call (Value.ref 151) _) _ _ _)); (fail_if_success (with_reducible show wpAny _ _ (call (Value.builtin "sum") _) _ _ _)); (fail_if_success (with_reducible show wpAny _ _ (call (Value.type "dict") _) _ _ _)); (fail_if_success (with_reducible show wpAny _ _ (compareOp CmpOp.NotEq (Value.ref _) (Value.ref _)) _ _ _)); (fail_if_success (with_reducible show wpAny _ _ (exec (Stmt.Assign [PySem.Expr.Name _ _] (PySem.Expr.ListComp _ _ _ _) _) _) _ _ _)); (fail_if_success (with_reducible show wpAny _ _ (call (Value.ref 139) _) _ _ _)); (fail_if_success (with_reducible show wpAny _ _ (call (Value.ref 132) _) _ _ _)); (fail_if_success (with_reducible show wpAny _ _ (eval (PySem.Expr.ListComp _ _ _ _) _) _ _ _)); (fail_if_success (with_reducible show wpAny _ _ (pyIter (Value.ref _)) _ _ _)); (first | (k_unfold; (try dsimp only)) | (k_end; wrow_close) | walk1 | (dsimp only; walk1) | (leave1; walk_say "STEP leave1"; try dsimp only) | fail "no step"))); all_goals (try k_fold))
    refine assign_comp_tup (h₀ := h₀) (L := L) (m := M) rfl (by with_unfolding_all rfl) (by with_unfolding_all rfl) (by decide) rfl (by decide) rfl rfl rfl rfl ?_
    ((repeat' ( (fail_if_success (with_reducible show wpAny _ _ (execs (Stmt.For (PySem.Expr.Name (Str.ofString "spot") _) _ _ _ _ :: _) _) _ _ _)); (fail_if_success (with_reducible show wpAny _ _ (call (Value.ref 151) _) _ _ _)); (fail_if_success (with_reducible show wpAny _ _ (call (Value.builtin "sum") _) _ _ _)); (fail_if_success (with_reducible show wpAny _ _ (call (Value.type "dict") _) _ _ _)); (fail_if_success (with_reducible show wpAny _ _ (compareOp CmpOp.NotEq (Value.ref _) (Value.ref _)) _ _ _)); (fail_if_success (with_reducible show wpAny _ _ (exec (Stmt.Assign [PySem.Expr.Name _ _] (PySem.Expr.ListComp _ _ _ _) _) _) _ _ _)); (fail_if_success (with_reducible show wpAny _ _ (call (Value.ref 139) _) _ _ _)); (fail_if_success (with_reducible show wpAny _ _ (call (Value.ref 132) _) _ _ _)); (fail_if_success (with_reducible show wpAny _ _ (eval (PySem.Expr.ListComp _ _ _ _) _) _ _ _)); (fail_if_success (with_reducible show wpAny _ _ (pyIter (Value.ref _)) _ _ _)); (first | (k_unfold; (try dsimp only)) | (k_end; wrow_close) | walk1 | (dsimp only; walk1) | (leave1; walk_say "STEP leave1"; try dsimp only) | fail "no step"))); all_goals (try k_fold))
    unfold SrcTupA
    refine ⟨du, #[.int (mixN es) t1, .int (topOne es : Nat) t2, .int (topTwo es : Nat) t3], 0, _, rfl, FM trivial, N₁, .tail _ hdu', by show 3 ≤ sizeLine; rw [sizeLine_eq]; decide, fun g => rest_of_inv (fun i ys nw => ∃ nw' ns, nw = (I0, oI0) :: nw' ∧ Core w L pen nw' tb oTab oT oF' oS oP rest' kvs es ∧ (∀ p ∈ nw', @Ne Nat p.1 I0) ∧ IntsAre ys ns ∧ Wd ([mixN es, (topOne es : Nat), (topTwo es : Nat)].take i) ns) 3 ?hS ?hF ?turn 3 0 [] _ (Nat.zero_add _) ⟨news₁, [], rfl, K', ho, .nil, rfl, nofun⟩⟩
    case hS =>
      rintro i ys nw ⟨nw', ns, rfl, K2, -⟩
      exact .tail _ (K2.inRest _ (sub _ hdu))
    case turn =>
      rintro j v ys nw I oI Cc oC D m₂ h tk E' QE hQE hj hv ⟨nw', ns, rfl, K2, o0, hys, hwd⟩ hoC hx F₃ N₃ oI1 oC1 oD1 n1 n2 n3
      obtain ⟨d, td, rfl, hd⟩ := ints_get (vs := [.int (mixN es) t1, .int (topOne es : Nat) t2, .int (topTwo es : Nat) t3]) (ns := [mixN es, (topOne es : Nat), (topTwo es : Nat)]) (.cons _ _ (.cons _ _ (.cons _ _ .nil))) (by rw [← List.getElem?_toArray]; exact hv)
      have hmCP2 := K2.inP
      clear F₂ N₁
      try k_fold
      ((repeat' ( (fail_if_success (with_reducible show wpAny _ _ (execs (Stmt.For (PySem.Expr.Name (Str.ofString "spot") _) _ _ _ _ :: _) _) _ _ _)); (fail_if_success (with_reducible show wpAny _ _ (call (Value.ref 151) _) _ _ _)); (fail_if_success (with_reducible show wpAny _ _ (call (Value.builtin "sum") _) _ _ _)); (fail_if_success (with_reducible show wpAny _ _ (call (Value.type "dict") _) _ _ _)); (fail_if_success (with_reducible show wpAny _ _ (compareOp CmpOp.NotEq (Value.ref _) (Value.ref _)) _ _ _)); (fail_if_success (with_reducible show wpAny _ _ (exec (Stmt.Assign [PySem.Expr.Name _ _] (PySem.Expr.ListComp _ _ _ _) _) _) _ _ _)); (fail_if_success (with_reducible show wpAny _ _ (call (Value.ref 139) _) _ _ _)); (fail_if_success (with_reducible show wpAny _ _ (call (Value.ref 132) _) _ _ _)); (fail_if_success (with_reducible show wpAny _ _ (eval (PySem.Expr.ListComp _ _ _ _) _) _ _ _)); (fail_if_success (with_reducible show wpAny _ _ (pyIter (Value.ref _)) _ _ _)); (first | (k_unfold; (try dsimp only)) | (k_end; wrow_close) | walk1 | (dsimp only; walk1) | (leave1; walk_say "STEP leave1"; try dsimp only) | fail "no step"))); all_goals (try k_fold))
      refine' does_use (draw_in w nw' (cellsL L tb oTab oT oF' oS oP rest') [(I, oI), (Cc, oC), (D, LCg.lst ys), (I0, oI0)] pen 4 _ (by decide) (by decide) K2.isPen ?off) ?k1 ?k2 ?k3 ?k4 ?k5 ?k6 ?k7 ?k8 ?_
      case off => exact List.forall_mem_cons.mpr ⟨fun p hp => oI1 p (.tail _ hp), List.forall_mem_cons.mpr ⟨fun p hp => oC1 p (.tail _ hp), List.forall_mem_cons.mpr ⟨fun p hp => oD1 p (.tail _ hp), List.forall_mem_cons.mpr ⟨o0, List.forall_mem_nil _⟩⟩⟩⟩
      walk_at "MY call"
      rintro v9 _ h9 tk9 ⟨dd, tdd, nw2, rfl, hd0, hd1, rfl, P9, off9⟩ F9 N9
      clear F₃ N₃
      try k_fold
      ((repeat' ( (fail_if_success (with_reducible show wpAny _ _ (execs (Stmt.For (PySem.Expr.Name (Str.ofString "spot") _) _ _ _ _ :: _) _) _ _ _)); (fail_if_success (with_reducible show wpAny _ _ (call (Value.ref 151) _) _ _ _)); (fail_if_success (with_reducible show wpAny _ _ (call (Value.builtin "sum") _) _ _ _)); (fail_if_success (with_reducible show wpAny _ _ (call (Value.type "dict") _) _ _ _)); (fail_if_success (with_reducible show wpAny _ _ (compareOp CmpOp.NotEq (Value.ref _) (Value.ref _)) _ _ _)); (fail_if_success (with_reducible show wpAny _ _ (exec (Stmt.Assign [PySem.Expr.Name _ _] (PySem.Expr.ListComp _ _ _ _) _) _) _ _ _)); (fail_if_success (with_reducible show wpAny _ _ (call (Value.ref 139) _) _ _ _)); (fail_if_success (with_reducible show wpAny _ _ (call (Value.ref 132) _) _ _ _)); (fail_if_success (with_reducible show wpAny _ _ (eval (PySem.Expr.ListComp _ _ _ _) _) _ _ _)); (fail_if_success (with_reducible show wpAny _ _ (pyIter (Value.ref _)) _ _ _)); (first | (k_unfold; (try dsimp only)) | (k_end; wrow_close) | walk1 | (dsimp only; walk1) | (leave1; walk_say "STEP leave1"; try dsimp only) | fail "no step"))); all_goals (try k_fold))
      have htk : [mixN es, ((topOne es : Nat) : Int), ((topTwo es : Nat) : Int)].take (j + 1) = [mixN es, ((topOne es : Nat) : Int), ((topTwo es : Nat) : Int)].take j ++ [d] := by rw [List.take_add_one, hd]; rfl
      exact hQE _ _ ⟨_, _, (I0, oI0) :: nw2, rfl, F9, N9, List.forall_mem_cons.mpr ⟨oI1 _ (.head _), off9 _ (.head _)⟩, List.forall_mem_cons.mpr ⟨oC1 _ (.head _), off9 _ (.tail _ (.head _))⟩, List.forall_mem_cons.mpr ⟨oD1 _ (.head _), off9 _ (.tail _ (.tail _ (.head _)))⟩,
        nw2, _, rfl, K2.drawn P9, off9 _ (.tail _ (.tail _ (.tail _ (.head _)))), ints_snoc hys _ _, by rw [htk]; exact hwd.snoc (by omega) (by omega)⟩
    case hF =>
      rintro ys nw ⟨nw', ns, rfl, K2, o0, hys, hwd⟩
      obtain ⟨x, y, z, rfl, x1, x2, y1, y2, z1, z2⟩ := Wd.three hwd (mix_range es).1 (Int.natCast_nonneg _) (Int.natCast_nonneg _)
      obtain ⟨s1, s2, s3, rfl⟩ := ints_three hys
      unfold LCg.FinA
      intro D h' tk' F₃ N₃ o1
      have oD := off1_mem o1
      subst hM
      dsimp only at F₃
      clear F₂ N₁ FM
      obtain ⟨q1, q2, q3⟩ := top_small K.tbl
      have q4 := (mix_range es).2
      have hok := widths_ok K.tbl (x := x) (y := y) (z := z) x1 (by omega) (by omega)
      try k_fold
      ((repeat' ( (fail_if_success (with_reducible show wpAny _ _ (execs (Stmt.For (PySem.Expr.Name (Str.ofString "spot") _) _ _ _ _ :: _) _) _ _ _)); (fail_if_success (with_reducible show wpAny _ _ (call (Value.ref 151) _) _ _ _)); (fail_if_success (with_reducible show wpAny _ _ (call (Value.builtin "sum") _) _ _ _)); (fail_if_success (with_reducible show wpAny _ _ (call (Value.type "dict") _) _ _ _)); (fail_if_success (with_reducible show wpAny _ _ (compareOp CmpOp.NotEq (Value.ref _) (Value.ref _)) _ _ _)); (fail_if_success (with_reducible show wpAny _ _ (exec (Stmt.Assign [PySem.Expr.Name _ _] (PySem.Expr.ListComp _ _ _ _) _) _) _ _ _)); (fail_if_success (with_reducible show wpAny _ _ (call (Value.ref 139) _) _ _ _)); (fail_if_success (with_reducible show wpAny _ _ (call (Value.ref 132) _) _ _ _)); (fail_if_success (with_reducible show wpAny _ _ (eval (PySem.Expr.ListComp _ _ _ _) _) _ _ _)); (fail_if_success (with_reducible show wpAny _ _ (pyIter (Value.ref _)) _ _ _)); (first | (k_unfold; (try dsimp only)) | (k_end; wrow_close) | walk1 | (dsimp only; walk1) | (leave1; walk_say "STEP leave1"; try dsimp only) | fail "no step"))); all_goals (try k_fold))
      refine' does_use (rw_does w ((D, LCg.lst [.int (x : Int) s1, .int (y : Int) s2, .int (z : Int) s3]) :: (I0, oI0) :: nw') en oE kvsE es (hEn.mono fun p hp => .tail _ (.tail _ (K2.inRest p (sub p hp)))) (by rw [hEn.ents.length]; omega) (by rw [hEn.ents.keys]; exact K.tbl.sorted) D x y z s1 s2 s3 3 (by omega) (by omega) (by omega) (.head _) hok) ?k1 ?k2 ?k3 ?k4 ?k5 ?k6 ?k7 ?k8 ?_
      walk_at "MY call"
      rintro v9 _ h9 tk9 ⟨⟨tb9, rfl⟩, rfl⟩ F9 N9
      clear F₃ N₃
      obtain ⟨rvs, er, rs, hrm, hRI, hkeys, hpos⟩ := hru
      try k_fold
      ((repeat' ( (fail_if_success (with_reducible show wpAny _ _ (execs (Stmt.For (PySem.Expr.Name (Str.ofString "spot") _) _ _ _ _ :: _) _) _ _ _)); (fail_if_success (with_reducible show wpAny _ _ (call (Value.ref 151) _) _ _ _)); (fail_if_success (with_reducible show wpAny _ _ (call (Value.builtin "sum") _) _ _ _)); (fail_if_success (with_reducible show wpAny _ _ (call (Value.type "dict") _) _ _ _)); (fail_if_success (with_reducible show wpAny _ _ (compareOp CmpOp.NotEq (Value.ref _) (Value.ref _)) _ _ _)); (fail_if_success (with_reducible show wpAny _ _ (exec (Stmt.Assign [PySem.Expr.Name _ _] (PySem.Expr.ListComp _ _ _ _) _) _) _ _ _)); (fail_if_success (with_reducible show wpAny _ _ (call (Value.ref 139) _) _ _ _)); (fail_if_success (with_reducible show wpAny _ _ (call (Value.ref 132) _) _ _ _)); (fail_if_success (with_reducible show wpAny _ _ (eval (PySem.Expr.ListComp _ _ _ _) _) _ _ _)); (fail_if_success (with_reducible show wpAny _ _ (pyIter (Value.ref _)) _ _ _)); (first | (k_unfold; (try dsimp only)) | (k_end; wrow_close) | walk1 | (dsimp only; walk1) | (leave1; walk_say "STEP leave1"; try dsimp only) | fail "no step"))); all_goals (try k_fold))
      refine' does_use (eo_does w ((D, LCg.lst [.int (x : Int) s1, .int (y : Int) s2, .int (z : Int) s3]) :: (I0, oI0) :: nw') es rs hkeys K.tbl.sorted (by omega) hpos (fun e he => by have := K.tbl.keys e he; omega) D x y z s1 s2 s3 3 (by omega) (by omega) (by omega) (by omega) (.head _) ru rvs er (.tail _ (.tail _ (K2.inRest _ (sub _ hrm)))) hRI tb9 hok) ?k1 ?k2 ?k3 ?k4 ?k5 ?k6 ?k7 ?k8 ?_
      walk_at "MY call"
      rintro v8 _ h8 tk8 ⟨D2, oD2, kvs2, rest2, rfl, rfl, in2, off2, hT2⟩ F8 N8
      have hmCF2 : (L + 1 + 1 + 1, oF') ∈ (D2, oD2) :: rest2 := .tail _ (in2 _ (.tail _ (.tail _ K2.inF)))
      have N7 := news_cell N8 hmCF2
      have u1 : ∀ p ∈ offL (L + 1 + 1 + 1) ((D2, oD2) :: rest2), @Ne Nat p.1 (L + 1 + 1 + 1) := offL_ne
      have l1 := K2.cells.ltT
      have v1 : (D2, oD2) ∈ offL (L + 1 + 1 + 1) ((D2, oD2) :: rest2) := offL_mem.mpr ⟨.head _, fun e => off2 (L + 1 + 1 + 1, oF') (in2 _ (.tail _ (.tail _ K2.inF))) e.symm⟩
      have v2 : (D, LCg.lst [.int (x : Int) s1, .int (y : Int) s2, .int (z : Int) s3]) ∈ offL (L + 1 + 1 + 1) ((D2, oD2) :: rest2) := off_cell N8 hmCF2 dF (.tail _ (in2 _ (.head _))) (fun c h => by cases h)
      have v3 : (I0, oI0) ∈ offL (L + 1 + 1 + 1) ((D2, oD2) :: rest2) := offL_mem.mpr ⟨.tail _ (in2 _ (.tail _ (.head _))), fun e => o0 _ K2.inF e.symm⟩
      have v4 : (L + 1 + 1, oT) ∈ offL (L + 1 + 1 + 1) ((D2, oD2) :: rest2) := offL_mem.mpr ⟨.tail _ (in2 _ (.tail _ (.tail _ K2.inT))), by show @Ne Nat _ _; omega⟩
      have v5 : (tb, oTab) ∈ offL (L + 1 + 1 + 1) ((D2, oD2) :: rest2) := offL_mem.mpr ⟨.tail _ (in2 _ (.tail _ (.tail _ K2.inTab))), by show @Ne Nat _ _; omega⟩
      have hT3 : EntsAt w (offL (L + 1 + 1 + 1) ((D2, oD2) :: rest2)) kvs2 es := hT2.ents.mono' fun p hp hc => off_cell N8 hmCF2 dF hp hc
      have vK : ∀ p ∈ nw', @Ne Nat p.1 (L + 1 + 1 + 1) → p ∈ offL (L + 1 + 1 + 1) ((D2, oD2) :: rest2) := fun p hp hn => offL_mem.mpr ⟨.tail _ (in2 _ (.tail _ (.tail _ hp))), hn⟩
      have hd2 := hT2.dict
      have lo2 := hT2.lo
      clear N8 hT2 hmCF2
      generalize offL (L + 1 + 1 + 1) ((D2, oD2) :: rest2) = O at *
      have hbl := rowsB_length x y z es
      have hb9 : (rowsB x y z es).toArray.size ≤ 1000 := by
        rw [List.size_toArray, hbl]
        have := Nat.mul_le_mul (show es.length ≤ 6 by omega) (show x + y + z ≤ 16 by omega)
        omega
      have hlen : (((rowsB x y z es).toArray.size : Nat) : Int) = (0 + (x : Int) + (y : Int) + (z : Int)) * (es.length : Int) := by
        rw [List.size_toArray, hbl, Int.natCast_mul, Int.mul_comm]
        congr 1
        omega
      try k_fold
      ((repeat' ( (fail_if_success (with_reducible show wpAny _ _ (execs (Stmt.For (PySem.Expr.Name (Str.ofString "spot") _) _ _ _ _ :: _) _) _ _ _)); (fail_if_success (with_reducible show wpAny _ _ (call (Value.ref 151) _) _ _ _)); (fail_if_success (with_reducible show wpAny _ _ (call (Value.builtin "sum") _) _ _ _)); (fail_if_success (with_reducible show wpAny _ _ (call (Value.type "dict") _) _ _ _)); (fail_if_success (with_reducible show wpAny _ _ (compareOp CmpOp.NotEq (Value.ref _) (Value.ref _)) _ _ _)); (fail_if_success (with_reducible show wpAny _ _ (exec (Stmt.Assign [PySem.Expr.Name _ _] (PySem.Expr.ListComp _ _ _ _) _) _) _ _ _)); (fail_if_success (with_reducible show wpAny _ _ (call (Value.ref 139) _) _ _ _)); (fail_if_success (with_reducible show wpAny _ _ (call (Value.ref 132) _) _ _ _)); (fail_if_success (with_reducible show wpAny _ _ (eval (PySem.Expr.ListComp _ _ _ _) _) _ _ _)); (fail_if_success (with_reducible show wpAny _ _ (pyIter (Value.ref _)) _ _ _)); (first | (k_unfold; (try dsimp only)) | (k_end; wrow_close) | walk1 | (dsimp only; walk1) | (leave1; walk_say "STEP leave1"; try dsimp only) | fail "no step"))); all_goals (try k_fold))
      (rename Fr _ _ _ _ => lF')
      (rename News _ _ _ _ => lN')
      refine sumK rfl lF' lN' (vs := [.int (x : Int) s1, .int (y : Int) s2, .int (z : Int) s3]) (PySem.IsL.isList (n := 3) (lN' _ (.tail _ v2)).1) (.cons _ _ (.cons _ _ (.cons _ _ .nil))) ?_
      intro h5 tk5 t5 F5 N5
      clear lF' lN'
      have hsum : ([(x : Int), (y : Int), (z : Int)] : List Int).sum = 0 + (x : Int) + (y : Int) + (z : Int) := by simp [List.sum_cons, List.sum_nil]; omega
      rw [hsum]
      obtain ⟨S, hS⟩ : ∃ S : Int, S = 0 + (x : Int) + (y : Int) + (z : Int) := ⟨_, rfl⟩
      rw [← hS] at hlen ⊢
      have hS0 : 0 ≤ S := by omega
      have hS1 : S ≤ 16 := by omega
      clear hS hsum
      try k_fold
      ((repeat' ( (fail_if_success (with_reducible show wpAny _ _ (execs (Stmt.For (PySem.Expr.Name (Str.ofString "spot") _) _ _ _ _ :: _) _) _ _ _)); (fail_if_success (with_reducible show wpAny _ _ (call (Value.ref 151) _) _ _ _)); (fail_if_success (with_reducible show wpAny _ _ (call (Value.builtin "sum") _) _ _ _)); (fail_if_success (with_reducible show wpAny _ _ (call (Value.type "dict") _) _ _ _)); (fail_if_success (with_reducible show wpAny _ _ (compareOp CmpOp.NotEq (Value.ref _) (Value.ref _)) _ _ _)); (fail_if_success (with_reducible show wpAny _ _ (exec (Stmt.Assign [PySem.Expr.Name _ _] (PySem.Expr.ListComp _ _ _ _) _) _) _ _ _)); (fail_if_success (with_reducible show wpAny _ _ (call (Value.ref 139) _) _ _ _)); (fail_if_success (with_reducible show wpAny _ _ (call (Value.ref 132) _) _ _ _)); (fail_if_success (with_reducible show wpAny _ _ (eval (PySem.Expr.ListComp _ _ _ _) _) _ _ _)); (fail_if_success (with_reducible show wpAny _ _ (pyIter (Value.ref _)) _ _ _)); (first | (k_unfold; (try dsimp only)) | (k_end; wrow_close) | walk1 | (dsimp only; walk1) | (leave1; walk_say "STEP leave1"; try dsimp only) | fail "no step"))); all_goals (try k_fold))
      refine kda_len (knd := PySem.intKind _ _) N5 (.tail _ v5) hdT lo (by omega) ?_
      rw [hkl]
      have hel0 : (0 : Int) ≤ (es.length : Int) := by omega
      have hel1 : (es.length : Int) ≤ 6 := by omega
      try k_fold
      ((repeat' ( (fail_if_success (with_reducible show wpAny _ _ (execs (Stmt.For (PySem.Expr.Name (Str.ofString "spot") _) _ _ _ _ :: _) _) _ _ _)); (fail_if_success (with_reducible show wpAny _ _ (call (Value.ref 151) _) _ _ _)); (fail_if_success (with_reducible show wpAny _ _ (call (Value.builtin "sum") _) _ _ _)); (fail_if_success (with_reducible show wpAny _ _ (call (Value.type "dict") _) _ _ _)); (fail_if_success (with_reducible show wpAny _ _ (compareOp CmpOp.NotEq (Value.ref _) (Value.ref _)) _ _ _)); (fail_if_success (with_reducible show wpAny _ _ (exec (Stmt.Assign [PySem.Expr.Name _ _] (PySem.Expr.ListComp _ _ _ _) _) _) _ _ _)); (fail_if_success (with_reducible show wpAny _ _ (call (Value.ref 139) _) _ _ _)); (fail_if_success (with_reducible show wpAny _ _ (call (Value.ref 132) _) _ _ _)); (fail_if_success (with_reducible show wpAny _ _ (eval (PySem.Expr.ListComp _ _ _ _) _) _ _ _)); (fail_if_success (with_reducible show wpAny _ _ (pyIter (Value.ref _)) _ _ _)); (first | (k_unfold; (try dsimp only)) | (k_end; wrow_close) | walk1 | (dsimp only; walk1) | (leave1; walk_say "STEP leave1"; try dsimp only) | fail "no step"))); all_goals (try k_fold))
      · exact absurd hlen (by assumption)
      obtain ⟨aF, oF2, e1, e2, -⟩ := led_o1 N5
      subst e1
      subst e2
      (rename oF2.data = _ => dF2)
      obtain ⟨M2, FM2, hM2⟩ : ∃ M, (True → Fr h₀ L h5 M) ∧ M = _ := ⟨_, fun _ => F5, rfl⟩
      refine comp_dict (knd := PySem.intKind prg w) (h₀ := h₀) (L := L) (m := M2) (by with_unfolding_all rfl) (by decide) rfl (by decide) rfl rfl ?_
      ((repeat' ( (fail_if_success (with_reducible show wpAny _ _ (execs (Stmt.For (PySem.Expr.Name (Str.ofString "spot") _) _ _ _ _ :: _) _) _ _ _)); (fail_if_success (with_reducible show wpAny _ _ (call (Value.ref 151) _) _ _ _)); (fail_if_success (with_reducible show wpAny _ _ (call (Value.builtin "sum") _) _ _ _)); (fail_if_success (with_reducible show wpAny _ _ (call (Value.type "dict") _) _ _ _)); (fail_if_success (with_reducible show wpAny _ _ (compareOp CmpOp.NotEq (Value.ref _) (Value.ref _)) _ _ _)); (fail_if_success (with_reducible show wpAny _ _ (exec (Stmt.Assign [PySem.Expr.Name _ _] (PySem.Expr.ListComp _ _ _ _) _) _) _ _ _)); (fail_if_success (with_reducible show wpAny _ _ (call (Value.ref 139) _) _ _ _)); (fail_if_success (with_reducible show wpAny _ _ (call (Value.ref 132) _) _ _ _)); (fail_if_success (with_reducible show wpAny _ _ (eval (PySem.Expr.ListComp _ _ _ _) _) _ _ _)); (fail_if_success (with_reducible show wpAny _ _ (pyIter (Value.ref _)) _ _ _)); (first | (k_unfold; (try dsimp only)) | (k_end; wrow_close) | walk1 | (dsimp only; walk1) | (leave1; walk_say "STEP leave1"; try dsimp only) | fail "no step"))); all_goals (try k_fold))
      have hk2l : kvs2.length = es.length := hT3.length
      refine ⟨D2, oD2, kvs2, _, rfl, FM2 trivial, N5, .tail _ v1, hd2, lo2, by rw [sizeLine_eq]; omega, fun g => rest_of_inv (fun i ys nw => ∃ R, nw = (L + 1 + 1 + 1, oF2) :: R ∧ (∀ p ∈ O, p ∈ R) ∧ (∀ p ∈ R, @Ne Nat p.1 (L + 1 + 1 + 1)) ∧ PairsAt TupAt R ys (es.take i)) kvs2.length ?hS ?hF ?turn kvs2.length 0 [] _ (Nat.zero_add _) ⟨O, rfl, fun _ h => h, u1, .nil⟩⟩
      case hS => rintro i ys nw ⟨R, rfl, sR, -⟩; exact .tail _ (sR _ v1)
      case turn =>
        rintro j v ys nw I oI Cc oC Dl m₂ h tk E' QE hQE hj ⟨key, yv, hky, hv⟩ ⟨R, rfl, sR, uR, hPs⟩ hoC hx F₃ N₃ oI1 oC1 oD1 n1 n2 n3
        obtain ⟨e, xa, he, rfl, rfl, d, a1, a2, a3, a4, a5, a6, g1, g2⟩ := hT3.get hky
        obtain ⟨tv, rfl⟩ := Value.isInt_shape hv
        have hat := valueAt_of_get (keysNodup_of_isDictOf hd2) hky
        have g1' := sR _ g1
        have g2' := sR _ g2
        have v1' := sR _ v1
        unfold entD at g2'
        clear F5 N5 g1 g2
        try k_fold
        ((repeat' ( (fail_if_success (with_reducible show wpAny _ _ (execs (Stmt.For (PySem.Expr.Name (Str.ofString "spot") _) _ _ _ _ :: _) _) _ _ _)); (fail_if_success (with_reducible show wpAny _ _ (call (Value.ref 151) _) _ _ _)); (fail_if_success (with_reducible show wpAny _ _ (call (Value.builtin "sum") _) _ _ _)); (fail_if_success (with_reducible show wpAny _ _ (call (Value.type "dict") _) _ _ _)); (fail_if_success (with_reducible show wpAny _ _ (compareOp CmpOp.NotEq (Value.ref _) (Value.ref _)) _ _ _)); (fail_if_success (with_reducible show wpAny _ _ (exec (Stmt.Assign [PySem.Expr.Name _ _] (PySem.Expr.ListComp _ _ _ _) _) _) _ _ _)); (fail_if_success (with_reducible show wpAny _ _ (call (Value.ref 139) _) _ _ _)); (fail_if_success (with_reducible show wpAny _ _ (call (Value.ref 132) _) _ _ _)); (fail_if_success (with_reducible show wpAny _ _ (eval (PySem.Expr.ListComp _ _ _ _) _) _ _ _)); (fail_if_success (with_reducible show wpAny _ _ (pyIter (Value.ref _)) _ _ _)); (first | (k_unfold; (try dsimp only)) | (k_end; wrow_close) | walk1 | (dsimp only; walk1) | (leave1; walk_say "STEP leave1"; try dsimp only) | fail "no step"))); all_goals (try k_fold))
        (rename Fr _ _ _ _ => lF')
        (rename News _ _ _ _ => lN')
        obtain ⟨pr, epr, -⟩ := led_1 lN'
        subst epr
        obtain ⟨tp, etp, -⟩ := led_2 lN'
        subst etp
        refine hQE _ _ ⟨_, _, (L + 1 + 1 + 1, oF2) :: (pr, pairD e tp tv) :: (tp, tupD e.way e.one e.two a2 a4 a6) :: R, rfl, lF', news_sub lN' (by unfold tupD; walk_at "MY sub"), List.forall_mem_cons.mpr ⟨oI1 _ (.head _), List.forall_mem_cons.mpr ⟨?a1, List.forall_mem_cons.mpr ⟨?a2, fun p hp => oI1 p (.tail _ hp)⟩⟩⟩,
          List.forall_mem_cons.mpr ⟨oC1 _ (.head _), List.forall_mem_cons.mpr ⟨?a3, List.forall_mem_cons.mpr ⟨?a4, fun p hp => oC1 p (.tail _ hp)⟩⟩⟩, List.forall_mem_cons.mpr ⟨oD1 _ (.head _), List.forall_mem_cons.mpr ⟨?a5, List.forall_mem_cons.mpr ⟨?a6, fun p hp => oD1 p (.tail _ hp)⟩⟩⟩,
          _, rfl, fun p hp => .tail _ (.tail _ (sR p hp)), List.forall_mem_cons.mpr ⟨?a7, List.forall_mem_cons.mpr ⟨?a8, uR⟩⟩, ?g⟩
        case g =>
          have htk : es.take (j + 1) = es.take j ++ [e] := by rw [List.take_add_one, he]; rfl
          rw [htk]
          exact (PairsAt.mono (Rw := TupAt) (fun r r' x e h hs => TupAt.mono h hs) hPs fun p hp => .tail _ (.tail _ hp)).snoc (t := tv) (e := e) (.head _) ⟨_, _, _, .tail _ (.head _)⟩
        all_goals (show @Ne Nat _ _; omega)
      case hF =>
        rintro ys nw ⟨R, rfl, sR, uR, hPs⟩
        rw [hk2l, List.take_length] at hPs
        unfold LCg.FinE
        intro Dl h tk F₃ N₃ o1
        have oDl := off1_mem o1
        obtain ⟨prs, r1, r2, r3, r4⟩ := hPs.tab (w := w) (TupsAt R) .nil (fun x e kvs es a b => .cons a b)
        subst hM2
        clear F5 N5 FM2
        try k_fold
        ((repeat' ( (fail_if_success (with_reducible show wpAny _ _ (execs (Stmt.For (PySem.Expr.Name (Str.ofString "spot") _) _ _ _ _ :: _) _) _ _ _)); (fail_if_success (with_reducible show wpAny _ _ (call (Value.ref 151) _) _ _ _)); (fail_if_success (with_reducible show wpAny _ _ (call (Value.builtin "sum") _) _ _ _)); (fail_if_success (with_reducible show wpAny _ _ (call (Value.type "dict") _) _ _ _)); (fail_if_success (with_reducible show wpAny _ _ (compareOp CmpOp.NotEq (Value.ref _) (Value.ref _)) _ _ _)); (fail_if_success (with_reducible show wpAny _ _ (exec (Stmt.Assign [PySem.Expr.Name _ _] (PySem.Expr.ListComp _ _ _ _) _) _) _ _ _)); (fail_if_success (with_reducible show wpAny _ _ (call (Value.ref 139) _) _ _ _)); (fail_if_success (with_reducible show wpAny _ _ (call (Value.ref 132) _) _ _ _)); (fail_if_success (with_reducible show wpAny _ _ (eval (PySem.Expr.ListComp _ _ _ _) _) _ _ _)); (fail_if_success (with_reducible show wpAny _ _ (pyIter (Value.ref _)) _ _ _)); (first | (k_unfold; (try dsimp only)) | (k_end; wrow_close) | walk1 | (dsimp only; walk1) | (leave1; walk_say "STEP leave1"; try dsimp only) | fail "no step"))); all_goals (try k_fold))
        refine dict_pairs_K (knd := PySem.intKind prg w) (c := ys.length) (its := ys) rfl F₃ N₃ T.nolimit (.head _) r1 ?nd ?sz ?hp ?_
        case nd => rw [r2]; exact K.tbl.nodup
        case sz => rw [r3.length]; omega
        case hp =>
          intro j kv hj
          obtain ⟨p, key, n, g1, g2, g3⟩ := r4 j kv hj
          exact ⟨p, key, n, g1, .tail _ (.tail _ g2), g3⟩
        intro h' tk' D3 oD3 F4 N4 hd3 lo3 lt3
        clear F₃ N₃
        have v4' := sR _ v4
        try k_fold
        ((repeat' ( (fail_if_success (with_reducible show wpAny _ _ (execs (Stmt.For (PySem.Expr.Name (Str.ofString "spot") _) _ _ _ _ :: _) _) _ _ _)); (fail_if_success (with_reducible show wpAny _ _ (call (Value.ref 151) _) _ _ _)); (fail_if_success (with_reducible show wpAny _ _ (call (Value.builtin "sum") _) _ _ _)); (fail_if_success (with_reducible show wpAny _ _ (call (Value.type "dict") _) _ _ _)); (fail_if_success (with_reducible show wpAny _ _ (compareOp CmpOp.NotEq (Value.ref _) (Value.ref _)) _ _ _)); (fail_if_success (with_reducible show wpAny _ _ (exec (Stmt.Assign [PySem.Expr.Name _ _] (PySem.Expr.ListComp _ _ _ _) _) _) _ _ _)); (fail_if_success (with_reducible show wpAny _ _ (call (Value.ref 139) _) _ _ _)); (fail_if_success (with_reducible show wpAny _ _ (call (Value.ref 132) _) _ _ _)); (fail_if_success (with_reducible show wpAny _ _ (eval (PySem.Expr.ListComp _ _ _ _) _) _ _ _)); (fail_if_success (with_reducible show wpAny _ _ (pyIter (Value.ref _)) _ _ _)); (first | (k_unfold; (try dsimp only)) | (k_end; wrow_close) | walk1 | (dsimp only; walk1) | (leave1; walk_say "STEP leave1"; try dsimp only) | fail "no step"))); all_goals (try k_fold))
        have far := K2.cells.far
        have inR : ∀ p ∈ rest', p ∈ (D3, oD3) :: (Dl, LCg.lst ys) :: (L + 1 + 1 + 1, oF2) :: R := fun p hp => .tail _ (.tail _ (.tail _ (sR p (vK p (K2.inRest p hp) (by have := far p hp; omega)))))
        refine kne_pairs N4 (.head _) (.tail _ (.tail _ (.tail _ (sR _ v5)))) hd3 hdT lo3 lo (by rw [r3.length, hkl]) (by k_units) (tups_hits N4 (by ke_room) (R := R) (fun p hp => .tail _ (.tail _ (.tail _ hp))) r3 (fun e he => ?hb) fun e he => (K.tbl.vals e he).1) ?_
        case hb =>
          obtain ⟨xx, h1, h2⟩ := K2.tups.look (by rw [K2.tups.keys]; exact K.tbl.nodup) e he
          exact ⟨xx, h1, h2.mono inR⟩
        rw [Bool.not_true]
        try k_fold
        ((repeat' ( (fail_if_success (with_reducible show wpAny _ _ (execs (Stmt.For (PySem.Expr.Name (Str.ofString "spot") _) _ _ _ _ :: _) _) _ _ _)); (fail_if_success (with_reducible show wpAny _ _ (call (Value.ref 151) _) _ _ _)); (fail_if_success (with_reducible show wpAny _ _ (call (Value.builtin "sum") _) _ _ _)); (fail_if_success (with_reducible show wpAny _ _ (call (Value.type "dict") _) _ _ _)); (fail_if_success (with_reducible show wpAny _ _ (compareOp CmpOp.NotEq (Value.ref _) (Value.ref _)) _ _ _)); (fail_if_success (with_reducible show wpAny _ _ (exec (Stmt.Assign [PySem.Expr.Name _ _] (PySem.Expr.ListComp _ _ _ _) _) _) _ _ _)); (fail_if_success (with_reducible show wpAny _ _ (call (Value.ref 139) _) _ _ _)); (fail_if_success (with_reducible show wpAny _ _ (call (Value.ref 132) _) _ _ _)); (fail_if_success (with_reducible show wpAny _ _ (eval (PySem.Expr.ListComp _ _ _ _) _) _ _ _)); (fail_if_success (with_reducible show wpAny _ _ (pyIter (Value.ref _)) _ _ _)); (first | (k_unfold; (try dsimp only)) | (k_end; wrow_close) | walk1 | (dsimp only; walk1) | (leave1; walk_say "STEP leave1"; try dsimp only) | fail "no step"))); all_goals (try k_fold))
        (rename Fr _ _ _ _ => lF')
        (rename News _ _ _ _ => lN')
        obtain ⟨nwF, KF, iF⟩ := K2.setF dF2
        refine hQT _ _ <| TurnEnd.next lF' (news_sub lN' (news' := (I0, oI0) :: nwF) ?n1) (fun p hp => nomatch hp) ?n2 ⟨oF2, rest', KF, sub, ⟨rfl, rfl, trivial⟩, ?n3⟩
        case n1 =>
          refine List.forall_mem_cons.mpr ⟨.tail _ (.tail _ (.tail _ (sR _ v3))), fun p hp => ?_⟩
          rcases iF p hp with e | ⟨h1, h2⟩
          · rw [e]; exact .tail _ (.tail _ (.head _))
          · exact .tail _ (.tail _ (.tail _ (sR _ (vK p h1 h2))))
        case n2 =>
          intro p hp
          rcases iF p hp with e | ⟨h1, h2⟩
          · rw [e]; exact o0 (L + 1 + 1 + 1, oF') K2.inF
          · exact o0 p h1
        case n3 => intro z hx hz; simp only [Off] at hz; simp [hx, hz]
  · rintro h tk m' news' ⟨oF', rest', K', sub, hL⟩ F₁ N₁
    have F₂ := hL.out F₁
    dsimp only
    exact next _ _ ⟨_, en, du, _, _, _, tb, oTab, oT, oF', oS, oP, rest', _, kvs, es, oE, kvsE, fr_upd _ F₂ ⟨rfl, rfl, trivial⟩, N₁, K', hEn.mono sub, sub _ hdu⟩
end
theorem st9 : ∀ (w : World) (h₀ : Heap) (L fa pen : Addr) (ccd : Value) (mean : ExcName → Option Value) (mg mb : Str → Option Value) (Q : Flow → Shared → Prop) (E : Value → Shared → Prop) (s : Shared)
    (B : Below callerA h₀ [] h₀) (X : (hd.heap_1 w.params).In h₀) (T : Top hview (looseW hview [Str.ofString "PaperError"]) mean mg mb h₀)
    (hE : PassesOwn (model PySem.Challenge.rw_og0136_01.row.prog w) (callerA.deeper (lawE L fa ccd)) (lawE L fa ccd) E)
    (I5 : Inv12 w h₀ L pen s.heap) (next : ∀ h tk, Inv10 w h₀ L pen h → wpAny (model PySem.Challenge.rw_og0136_01.row.prog w) (callerA.deeper (lawE L fa ccd)) (lawT 13 L fa ccd) Q E { s with heap := h, toks := tk }),
    wpAny (model PySem.Challenge.rw_og0136_01.row.prog w) (callerA.deeper (lawE L fa ccd)) (lawT 12 L fa ccd) Q E s := by
  intro w h₀ L fa pen ccd mean mg mb Q E s B X T hE I5 next
  obtain ⟨m, en, du, ru, t1, t2, t3, tb, oTab, oT, oF, oS, oP, rest, news, kvs, es, oE, kvsE, F9, N9, K, hEn, hdu, hru⟩ := I5
  obtain ⟨hp, gs, dr, tks, os⟩ := s
  exact (Classical.byContradiction fun hn => @Classical.epsilon_spec _ (fun x : (World) × (Heap) × (Addr) × (Addr) × (Addr) × (Value) × (ExcName → Option Value) × (Str → Option Value) × (Str → Option Value) × (Flow → Shared → Prop) × (Value → Shared → Prop) × (Heap) × (Array GenState) × (Drawn) × (Nat) × (OsState) × (Str → Option Value) × (Addr) × (Addr) × (Addr) × (Tok) × (Tok) × (Tok) × (Addr) × (Obj) × (Obj) × (Obj) × (Obj) × (Obj) × (Led) × (Led) × (List (Int × Value)) × (List Ent) × (Obj) × (List (Int × Value)) => ¬ Zst9.G (x.1) (x.2.1) (x.2.2.1) (x.2.2.2.1) (x.2.2.2.2.1) (x.2.2.2.2.2.1) (x.2.2.2.2.2.2.1) (x.2.2.2.2.2.2.2.1) (x.2.2.2.2.2.2.2.2.1) (x.2.2.2.2.2.2.2.2.2.1) (x.2.2.2.2.2.2.2.2.2.2.1) (x.2.2.2.2.2.2.2.2.2.2.2.1) (x.2.2.2.2.2.2.2.2.2.2.2.2.1) (x.2.2.2.2.2.2.2.2.2.2.2.2.2.1) (x.2.2.2.2.2.2.2.2.2.2.2.2.2.2.1) (x.2.2.2.2.2.2.2.2.2.2.2.2.2.2.2.1) (x.2.2.2.2.2.2.2.2.2.2.2.2.2.2.2.2.1) (x.2.2.2.2.2.2.2.2.2.2.2.2.2.2.2.2.2.1) (x.2.2.2.2.2.2.2.2.2.2.2.2.2.2.2.2.2.2.1) (x.2.2.2.2.2.2.2.2.2.2.2.2.2.2.2.2.2.2.2.1) (x.2.2.2.2.2.2.2.2.2.2.2.2.2.2.2.2.2.2.2.2.1) (x.2.2.2.2.2.2.2.2.2.2.2.2.2.2.2.2.2.2.2.2.2.1) (x.2.2.2.2.2.2.2.2.2.2.2.2.2.2.2.2.2.2.2.2.2.2.1) (x.2.2.2.2.2.2.2.2.2.2.2.2.2.2.2.2.2.2.2.2.2.2.2.1) (x.2.2.2.2.2.2.2.2.2.2.2.2.2.2.2.2.2.2.2.2.2.2.2.2.1) (x.2.2.2.2.2.2.2.2.2.2.2.2.2.2.2.2.2.2.2.2.2.2.2.2.2.1) (x.2.2.2.2.2.2.2.2.2.2.2.2.2.2.2.2.2.2.2.2.2.2.2.2.2.2.1) (x.2.2.2.2.2.2.2.2.2.2.2.2.2.2.2.2.2.2.2.2.2.2.2.2.2.2.2.1) (x.2.2.2.2.2.2.2.2.2.2.2.2.2.2.2.2.2.2.2.2.2.2.2.2.2.2.2.2.1) (x.2.2.2.2.2.2.2.2.2.2.2.2.2.2.2.2.2.2.2.2.2.2.2.2.2.2.2.2.2.1) (x.2.2.2.2.2.2.2.2.2.2.2.2.2.2.2.2.2.2.2.2.2.2.2.2.2.2.2.2.2.2.1) (x.2.2.2.2.2.2.2.2.2.2.2.2.2.2.2.2.2.2.2.2.2.2.2.2.2.2.2.2.2.2.2.1) (x.2.2.2.2.2.2.2.2.2.2.2.2.2.2.2.2.2.2.2.2.2.2.2.2.2.2.2.2.2.2.2.2.1) (x.2.2.2.2.2.2.2.2.2.2.2.2.2.2.2.2.2.2.2.2.2.2.2.2.2.2.2.2.2.2.2.2.2.1) (x.2.2.2.2.2.2.2.2.2.2.2.2.2.2.2.2.2.2.2.2.2.2.2.2.2.2.2.2.2.2.2.2.2.2)) ⟨(w, h₀, L, fa, pen, ccd, mean, mg, mb, Q, E, hp, gs, dr, tks, os, m, en, du, ru, t1, t2, t3, tb, oTab, oT, oF, oS, oP, rest, news, kvs, es, oE, kvsE), hn⟩ Zst9.main) B X T hE F9 N9 K hEn hdu hru next
end Mine
end
section
namespace Mine
section
variable {w : World} {L pen tb : Addr} {news : Led} {oTab oT oF oS oP : Obj} {rest : Led} {kvs : List (Int × Value)} {es : List Ent}
theorem Core.setS (K : Core w L pen news tb oTab oT oF oS oP rest kvs es) {oS2 : Obj} {c : Option Value} (h : oS2.data = .cell c) :
    ∃ news', Core w L pen news' tb oTab oT oF oS2 oP rest kvs es ∧ ∀ p ∈ news', p = (L + 1 + 1 + 1 + 1, oS2) ∨ (p ∈ news ∧ @Ne Nat p.1 (L + 1 + 1 + 1 + 1)) := by
  obtain ⟨⟨cl, k, tk, r, tr, vs, ns, n, rfl, hI, hl, hne, hr1, hr2⟩, C, hdT, lo, hTu, hTb, hes0, hes⟩ := K
  have l1 := C.ltT
  have l2 := C.ltP
  have w2 : @Ne Nat (L + 1 + 1 + 1 + 1) cl := hr2 (L + 1 + 1 + 1 + 1, oS) (.tail _ (.tail _ (.tail _ (.head _))))
  refine ⟨_, ⟨⟨cl, k, tk, r, tr, vs, ns, n, rfl, hI, hl, hne, ?a, ?b⟩, ⟨C.far, C.offT, C.ltT, C.ltP, C.cP, C.cT, C.cF, ⟨c, h⟩⟩, hdT, lo, hTu, hTb, hes0, hes⟩, ?e⟩
  case a =>
    simp only [cellsL, List.forall_mem_cons] at hr1 ⊢
    exact hr1
  case b =>
    simp only [cellsL, List.forall_mem_cons] at hr2 ⊢
    exact hr2
  case e =>
    have far := C.far
    simp only [cellsL, List.forall_mem_cons]
    refine ⟨.inr ⟨.head _, ?_⟩, .inr ⟨.tail _ (.head _), ?_⟩, .inr ⟨.tail _ (.tail _ (.head _)), ?_⟩, .inr ⟨.tail _ (.tail _ (.tail _ (.head _))), ?_⟩, .inr ⟨.tail _ (.tail _ (.tail _ (.tail _ (.head _)))), ?_⟩, .inl trivial, .inr ⟨.tail _ (.tail _ (.tail _ (.tail _ (.tail _ (.tail _ (.head _)))))), ?_⟩, fun p hp => .inr ⟨.tail _ (.tail _ (.tail _ (.tail _ (.tail _ (.tail _ (.tail _ hp)))))), ?_⟩⟩
    · show @Ne Nat _ _; omega
    · show @Ne Nat _ _; omega
    · show @Ne Nat _ _; omega
    · show @Ne Nat _ _; omega
    · show @Ne Nat _ _; omega
    · show @Ne Nat _ _; omega
    · have := far p hp; omega
end
/-- the least widths by their place -/
noncomputable def dueL (es : List Ent) : List Int := [mixN es, (topOne es : Nat), (topTwo es : Nat)]
theorem mixN_one {es : List Ent} (h : 0 < mixN es) : ∃ e ∈ es, e.way ≠ Str.ofString "used" := by
  unfold mixN at h
  split at h
  · rename_i hq
    obtain ⟨e, he, hw⟩ := List.any_eq_true.mp hq
    exact ⟨e, he, by simpa using hw⟩
  · omega
/-- one width less is refused -/
theorem narrow_bad {es : List Ent} (hT : Tbl es) {i : Nat} {d : Int} (hd : (dueL es)[i]? = some d) (hpos : (if i = 1 then 1 else 0) < d) {w0 w1 w2 : Nat}
    (h0 : (w0 : Int) = mixN es - (if (0 : Int) = (i : Int) then 1 else 0)) (h1 : (w1 : Int) = (topOne es : Nat) - (if (1 : Int) = (i : Int) then 1 else 0)) (h2 : (w2 : Int) = (topTwo es : Nat) - (if (2 : Int) = (i : Int) then 1 else 0)) :
    ¬ ∀ e ∈ es, (w0 = 0 → e.way = Str.ofString "used") ∧ rst e.one w1 = 0 ∧ rst e.two w2 = 0 := by
  intro hall
  match i, hd, hpos with
  | 0, hd, hpos =>
    simp [dueL] at hd
    subst hd
    simp at hpos
    obtain ⟨e, he, hw⟩ := mixN_one hpos
    have hr : mixN es ≤ 1 := by unfold mixN; split <;> omega
    simp at h0
    exact hw ((hall e he).1 (by omega))
  | 1, hd, hpos =>
    simp [dueL] at hd
    subst hd
    simp at hpos h1
    obtain ⟨-, -, g⟩ := fold_top (fun e => e.one) es 1
    rcases g with g | ⟨e, he, g⟩
    · have : topOne es = 1 := g
      omega
    · have g' : topOne es = wid e.one.toNat := g
      exact rst_over (k := w1) (hT.vals e he).2.1 (by omega) (hall e he).2.1
  | 2, hd, hpos =>
    simp [dueL] at hd
    subst hd
    simp at hpos h2
    obtain ⟨-, -, g⟩ := fold_top (fun e => e.two) es 0
    rcases g with g | ⟨e, he, g⟩
    · have : topTwo es = 0 := g
      omega
    · have g' : topTwo es = wid e.two.toNat := g
      exact rst_over (k := w2) (hT.vals e he).2.2.2.1 (by omega) (hall e he).2.2
  | i + 3, hd, hpos => simp [dueL] at hd
end Mine
end
section
theorem Mine.offL10 : True := by w_top off; trivial
namespace Mine
theorem narrow_ok {es : List Ent} (hT : Tbl es) {i : Nat} {d : Int} (hd : (dueL es)[i]? = some d) (hpos : (if i = 1 then 1 else 0) < d) :
    ∃ w0 w1 w2 : Nat, mixN es - (if (((0 : Nat) : Int) == 0 + (i : Int) * 1) = true then 1 else 0) = (w0 : Int) ∧ ((topOne es : Nat) : Int) - (if (((1 : Nat) : Int) == 0 + (i : Int) * 1) = true then 1 else 0) = (w1 : Int) ∧ ((topTwo es : Nat) : Int) - (if (((2 : Nat) : Int) == 0 + (i : Int) * 1) = true then 1 else 0) = (w2 : Int) ∧
      w0 ≤ 10 ∧ w1 ≤ 10 ∧ w2 ≤ 10 ∧ ¬ ∀ e ∈ es, (w0 = 0 → e.way = Str.ofString "used") ∧ rst e.one w1 = 0 ∧ rst e.two w2 = 0 := by
  have e0 : ∀ j : Nat, (if (((j : Nat) : Int) == 0 + (i : Int) * 1) = true then (1 : Int) else 0) = if (j : Int) = (i : Int) then 1 else 0 := by
    intro j
    by_cases h : (j : Int) = (i : Int)
    · rw [if_pos h, if_pos]; rw [beq_iff_eq]; omega
    · rw [if_neg h, if_neg]; rw [beq_iff_eq]; omega
  rw [e0, e0, e0]
  obtain ⟨q1, q2, q3⟩ := top_small hT
  have q0 : 0 ≤ mixN es ∧ mixN es ≤ 1 := by unfold mixN; split <;> omega
  have n0 : 0 ≤ mixN es - (if ((0 : Nat) : Int) = (i : Int) then 1 else 0) := by
    split
    · have : i = 0 := by omega
      subst this
      simp [dueL] at hd
      simp at hpos
      omega
    · omega
  have n1 : 0 ≤ ((topOne es : Nat) : Int) - (if ((1 : Nat) : Int) = (i : Int) then 1 else 0) := by split <;> omega
  have n2 : 0 ≤ ((topTwo es : Nat) : Int) - (if ((2 : Nat) : Int) = (i : Int) then 1 else 0) := by
    split
    · have : i = 2 := by omega
      subst this
      simp [dueL] at hd
      simp at hpos
      omega
    · omega
  obtain ⟨w0, h0⟩ := Int.eq_ofNat_of_zero_le n0
  obtain ⟨w1, h1⟩ := Int.eq_ofNat_of_zero_le n1
  obtain ⟨w2, h2⟩ := Int.eq_ofNat_of_zero_le n2
  refine ⟨w0, w1, w2, h0, h1, h2, ?_, ?_, ?_, narrow_bad hT hd hpos h0.symm h1.symm h2.symm⟩
  · split at h0 <;> omega
  · split at h1 <;> omega
  · split at h2 <;> omega
theorem doesTop_use {w : World} {f : Addr} {D U : Nat} {news : Led} {vs : List Value} {post : Value → Led → Prop} (C : DoesTop w f D U news vs post) {mean : ExcName → Option Value} {mg mb : Str → Option Value} {dp un : Nat} {gd : Option (List Code)} {cn : Str} {cs : Scope} {a : Addr} {ccd : Value} {cl : List (Str × Addr)}
    {A₀ : Around} {h₀ : Heap} {L : Addr} {m : Str → Option Value} {s : Shared} {Q E : Value → Shared → Prop}
    (B : Below A₀ h₀ [] h₀) (F : Fr h₀ L s.heap m) (X : (hd.heap_1 w.params).In h₀) (N : News h₀ L s.heap news) (T : Top hview (looseW hview [Str.ofString "PaperError"]) mean mg mb h₀) (hk : cs.kind = .function)
    (hd : dp + D < recursionLimit) (hu : un + U < cLine)
    (ret : ∀ v news' h' tk', post v news' → Fr h₀ L h' m → News h₀ L h' news' → Q v { s with heap := h', toks := tk' }) :
    wpAny (model PySem.Challenge.rw_og0136_01.row.prog w) (ktrTop dp un gd cn cs L a ccd cl []) (call (.ref f) vs) Q E s :=
  C _ _ _ _ _ _ _ _ _ _ _ _ _ _ _ _ _ _ B F X N T hk hd hu ret
noncomputable def Zst10.G (w : World) (h₀ : Heap) (L : Addr) (fa : Addr) (pen : Addr) (ccd : Value) (mean : ExcName → Option Value) (mg : Str → Option Value) (mb : Str → Option Value) (Q : Flow → Shared → Prop) (E : Value → Shared → Prop) (hp : Heap) (gs : Array GenState) (dr : Drawn) (tks : Nat) (os : OsState) (m : Str → Option Value) (en : Addr) (du : Addr) (t1 : Tok) (t2 : Tok) (t3 : Tok) (tb : Addr) (oTab : Obj) (oT : Obj) (oF : Obj) (oS : Obj) (oP : Obj) (rest : Led) (news : Led) (kvs : List (Int × Value)) (es : List Ent) (oE : Obj) (kvsE : List (Int × Value)) : Prop :=
  ∀ (B : Below callerA h₀ [] h₀), ∀ (X : (hd.heap_1 w.params).In h₀), ∀ (T : Top hview (looseW hview [Str.ofString "PaperError"]) mean mg mb h₀), ∀ (hE : PassesOwn (model PySem.Challenge.rw_og0136_01.row.prog w) (callerA.deeper (lawE L fa ccd)) (lawE L fa ccd) E), ∀ (F9 : Fr h₀ L hp (upd [(Str.ofString "entries", some (.ref en)), (Str.ofString "due", some (.ref du))] m)), ∀ (N9 : News h₀ L hp news), ∀ (K : Core w L pen news tb oTab oT oF oS oP rest kvs es), ∀ (hEn : EntTab w rest en oE kvsE es), ∀ (hdu : (du, tup3 (mixN es) (topOne es : Nat) (topTwo es : Nat) t1 t2 t3) ∈ rest), ∀ (next : ∀ h tk, Inv10 w h₀ L pen h → wpAny (model PySem.Challenge.rw_og0136_01.row.prog w) (callerA.deeper (lawE L fa ccd)) (lawT 14 L fa ccd) Q E (⟨h, gs, dr, tk, os⟩ : Shared)), wpAny (model PySem.Challenge.rw_og0136_01.row.prog w) (callerA.deeper (lawE L fa ccd)) (lawT 13 L fa ccd) Q E ⟨hp, gs, dr, tks, os⟩
noncomputable def Zst10.c : (World) × (Heap) × (Addr) × (Addr) × (Addr) × (Value) × (ExcName → Option Value) × (Str → Option Value) × (Str → Option Value) × (Flow → Shared → Prop) × (Value → Shared → Prop) × (Heap) × (Array GenState) × (Drawn) × (Nat) × (OsState) × (Str → Option Value) × (Addr) × (Addr) × (Tok) × (Tok) × (Tok) × (Addr) × (Obj) × (Obj) × (Obj) × (Obj) × (Obj) × (Led) × (Led) × (List (Int × Value)) × (List Ent) × (Obj) × (List (Int × Value)) :=
  @Classical.epsilon _ ⟨((aWorld 0 : World), (default : Heap), (default : Addr), (default : Addr), (default : Addr), (default : Value), (fun _ => none : ExcName → Option Value), (fun _ => none : Str → Option Value), (fun _ => none : Str → Option Value), (fun _ _ => True : Flow → Shared → Prop), (fun _ _ => True : Value → Shared → Prop), (default : Heap), (#[] : Array GenState), ({} : Drawn), (default : Nat), ({} : OsState), (fun _ => none : Str → Option Value), (default : Addr), (default : Addr), (default : Tok), (default : Tok), (default : Tok), (default : Addr), (default : Obj), (default : Obj), (default : Obj), (default : Obj), (default : Obj), (default : Led), (default : Led), (default : List (Int × Value)), (default : List Ent), (default : Obj), (default : List (Int × Value)))⟩ fun x => ¬ Zst10.G (x.1) (x.2.1) (x.2.2.1) (x.2.2.2.1) (x.2.2.2.2.1) (x.2.2.2.2.2.1) (x.2.2.2.2.2.2.1) (x.2.2.2.2.2.2.2.1) (x.2.2.2.2.2.2.2.2.1) (x.2.2.2.2.2.2.2.2.2.1) (x.2.2.2.2.2.2.2.2.2.2.1) (x.2.2.2.2.2.2.2.2.2.2.2.1) (x.2.2.2.2.2.2.2.2.2.2.2.2.1) (x.2.2.2.2.2.2.2.2.2.2.2.2.2.1) (x.2.2.2.2.2.2.2.2.2.2.2.2.2.2.1) (x.2.2.2.2.2.2.2.2.2.2.2.2.2.2.2.1) (x.2.2.2.2.2.2.2.2.2.2.2.2.2.2.2.2.1) (x.2.2.2.2.2.2.2.2.2.2.2.2.2.2.2.2.2.1) (x.2.2.2.2.2.2.2.2.2.2.2.2.2.2.2.2.2.2.1) (x.2.2.2.2.2.2.2.2.2.2.2.2.2.2.2.2.2.2.2.1) (x.2.2.2.2.2.2.2.2.2.2.2.2.2.2.2.2.2.2.2.2.1) (x.2.2.2.2.2.2.2.2.2.2.2.2.2.2.2.2.2.2.2.2.2.1) (x.2.2.2.2.2.2.2.2.2.2.2.2.2.2.2.2.2.2.2.2.2.2.1) (x.2.2.2.2.2.2.2.2.2.2.2.2.2.2.2.2.2.2.2.2.2.2.2.1) (x.2.2.2.2.2.2.2.2.2.2.2.2.2.2.2.2.2.2.2.2.2.2.2.2.1) (x.2.2.2.2.2.2.2.2.2.2.2.2.2.2.2.2.2.2.2.2.2.2.2.2.2.1) (x.2.2.2.2.2.2.2.2.2.2.2.2.2.2.2.2.2.2.2.2.2.2.2.2.2.2.1) (x.2.2.2.2.2.2.2.2.2.2.2.2.2.2.2.2.2.2.2.2.2.2.2.2.2.2.2.1) (x.2.2.2.2.2.2.2.2.2.2.2.2.2.2.2.2.2.2.2.2.2.2.2.2.2.2.2.2.1) (x.2.2.2.2.2.2.2.2.2.2.2.2.2.2.2.2.2.2.2.2.2.2.2.2.2.2.2.2.2.1) (x.2.2.2.2.2.2.2.2.2.2.2.2.2.2.2.2.2.2.2.2.2.2.2.2.2.2.2.2.2.2.1) (x.2.2.2.2.2.2.2.2.2.2.2.2.2.2.2.2.2.2.2.2.2.2.2.2.2.2.2.2.2.2.2.1) (x.2.2.2.2.2.2.2.2.2.2.2.2.2.2.2.2.2.2.2.2.2.2.2.2.2.2.2.2.2.2.2.2.1) (x.2.2.2.2.2.2.2.2.2.2.2.2.2.2.2.2.2.2.2.2.2.2.2.2.2.2.2.2.2.2.2.2.2)
noncomputable def Zst10.V.w : World := Zst10.c.1
noncomputable def Zst10.V.h₀ : Heap := Zst10.c.2.1
noncomputable def Zst10.V.L : Addr := Zst10.c.2.2.1
noncomputable def Zst10.V.fa : Addr := Zst10.c.2.2.2.1
noncomputable def Zst10.V.pen : Addr := Zst10.c.2.2.2.2.1
noncomputable def Zst10.V.ccd : Value := Zst10.c.2.2.2.2.2.1
noncomputable def Zst10.V.mean : ExcName → Option Value := Zst10.c.2.2.2.2.2.2.1
noncomputable def Zst10.V.mg : Str → Option Value := Zst10.c.2.2.2.2.2.2.2.1
noncomputable def Zst10.V.mb : Str → Option Value := Zst10.c.2.2.2.2.2.2.2.2.1
noncomputable def Zst10.V.Q : Flow → Shared → Prop := Zst10.c.2.2.2.2.2.2.2.2.2.1
noncomputable def Zst10.V.E : Value → Shared → Prop := Zst10.c.2.2.2.2.2.2.2.2.2.2.1
noncomputable def Zst10.V.hp : Heap := Zst10.c.2.2.2.2.2.2.2.2.2.2.2.1
noncomputable def Zst10.V.gs : Array GenState := Zst10.c.2.2.2.2.2.2.2.2.2.2.2.2.1
noncomputable def Zst10.V.dr : Drawn := Zst10.c.2.2.2.2.2.2.2.2.2.2.2.2.2.1
noncomputable def Zst10.V.tks : Nat := Zst10.c.2.2.2.2.2.2.2.2.2.2.2.2.2.2.1
noncomputable def Zst10.V.os : OsState := Zst10.c.2.2.2.2.2.2.2.2.2.2.2.2.2.2.2.1
noncomputable def Zst10.V.m : Str → Option Value := Zst10.c.2.2.2.2.2.2.2.2.2.2.2.2.2.2.2.2.1
noncomputable def Zst10.V.en : Addr := Zst10.c.2.2.2.2.2.2.2.2.2.2.2.2.2.2.2.2.2.1
noncomputable def Zst10.V.du : Addr := Zst10.c.2.2.2.2.2.2.2.2.2.2.2.2.2.2.2.2.2.2.1
noncomputable def Zst10.V.t1 : Tok := Zst10.c.2.2.2.2.2.2.2.2.2.2.2.2.2.2.2.2.2.2.2.1
noncomputable def Zst10.V.t2 : Tok := Zst10.c.2.2.2.2.2.2.2.2.2.2.2.2.2.2.2.2.2.2.2.2.1
noncomputable def Zst10.V.t3 : Tok := Zst10.c.2.2.2.2.2.2.2.2.2.2.2.2.2.2.2.2.2.2.2.2.2.1
noncomputable def Zst10.V.tb : Addr := Zst10.c.2.2.2.2.2.2.2.2.2.2.2.2.2.2.2.2.2.2.2.2.2.2.1
noncomputable def Zst10.V.oTab : Obj := Zst10.c.2.2.2.2.2.2.2.2.2.2.2.2.2.2.2.2.2.2.2.2.2.2.2.1
noncomputable def Zst10.V.oT : Obj := Zst10.c.2.2.2.2.2.2.2.2.2.2.2.2.2.2.2.2.2.2.2.2.2.2.2.2.1
noncomputable def Zst10.V.oF : Obj := Zst10.c.2.2.2.2.2.2.2.2.2.2.2.2.2.2.2.2.2.2.2.2.2.2.2.2.2.1
noncomputable def Zst10.V.oS : Obj := Zst10.c.2.2.2.2.2.2.2.2.2.2.2.2.2.2.2.2.2.2.2.2.2.2.2.2.2.2.1
noncomputable def Zst10.V.oP : Obj := Zst10.c.2.2.2.2.2.2.2.2.2.2.2.2.2.2.2.2.2.2.2.2.2.2.2.2.2.2.2.1
noncomputable def Zst10.V.rest : Led := Zst10.c.2.2.2.2.2.2.2.2.2.2.2.2.2.2.2.2.2.2.2.2.2.2.2.2.2.2.2.2.1
noncomputable def Zst10.V.news : Led := Zst10.c.2.2.2.2.2.2.2.2.2.2.2.2.2.2.2.2.2.2.2.2.2.2.2.2.2.2.2.2.2.1
noncomputable def Zst10.V.kvs : List (Int × Value) := Zst10.c.2.2.2.2.2.2.2.2.2.2.2.2.2.2.2.2.2.2.2.2.2.2.2.2.2.2.2.2.2.2.1
noncomputable def Zst10.V.es : List Ent := Zst10.c.2.2.2.2.2.2.2.2.2.2.2.2.2.2.2.2.2.2.2.2.2.2.2.2.2.2.2.2.2.2.2.1
noncomputable def Zst10.V.oE : Obj := Zst10.c.2.2.2.2.2.2.2.2.2.2.2.2.2.2.2.2.2.2.2.2.2.2.2.2.2.2.2.2.2.2.2.2.1
noncomputable def Zst10.V.kvsE : List (Int × Value) := Zst10.c.2.2.2.2.2.2.2.2.2.2.2.2.2.2.2.2.2.2.2.2.2.2.2.2.2.2.2.2.2.2.2.2.2
section
open Zst10.V
set_option maxHeartbeats 8000000 in
theorem Zst10.main : Zst10.G Zst10.V.w Zst10.V.h₀ Zst10.V.L Zst10.V.fa Zst10.V.pen Zst10.V.ccd Zst10.V.mean Zst10.V.mg Zst10.V.mb Zst10.V.Q Zst10.V.E Zst10.V.hp Zst10.V.gs Zst10.V.dr Zst10.V.tks Zst10.V.os Zst10.V.m Zst10.V.en Zst10.V.du Zst10.V.t1 Zst10.V.t2 Zst10.V.t3 Zst10.V.tb Zst10.V.oTab Zst10.V.oT Zst10.V.oF Zst10.V.oS Zst10.V.oP Zst10.V.rest Zst10.V.news Zst10.V.kvs Zst10.V.es Zst10.V.oE Zst10.V.kvsE := by
  unfold Zst10.G
  k_fill
  intro B X T hE F9 N9 K hEn hdu next
  have hes := K.six
  have far := K.cells.far
  try dsimp only at F9 N9
  simp only [upd] at F9
  dsimp only [lawE, lawT, lawB, List.drop] at hE ⊢
  try k_fold
  ((repeat' ( (fail_if_success (with_reducible show wpAny _ _ (execs (Stmt.Return _ _ :: _) _) _ _ _)); (fail_if_success (with_reducible show wpAny _ _ (exec (Stmt.Assign [PySem.Expr.Name _ _] (PySem.Expr.ListComp _ _ _ _) _) _) _ _ _)); (fail_if_success (with_reducible show wpAny _ _ (call (Value.type "enumerate") _) _ _ _)); (fail_if_success (with_reducible show wpAny _ _ (call (Value.ref 165) _) _ _ _)); (fail_if_success (with_reducible show wpAny _ _ (subscriptTail _ _ (Value.ref _) (Value.int _ _)) _ _ _)); (fail_if_success (with_reducible show wpAny _ _ (pyIter (Value.ref _)) _ _ _)); (first | (k_unfold; (try dsimp only)) | (k_end; wrow_close) | ((with_reducible show wpAny _ _ (exec (Stmt.For _ _ _ _ _) _) _ _ _); (k_here; (rename Fr _ _ _ _ => lF'); (with_unfolding_all refine' For_turns (hE := ?hE) lF' ?_); (case hE => assumption); k_whole)) | walk1 | (dsimp only; walk1) | (leave1; walk_say "STEP leave1"; try dsimp only) | fail "no step"))); all_goals (try k_fold))
  (rename IsRange _ _ _ _ _ _ _ _ => lR)
  (rename Fr _ _ _ _ => lF')
  (rename News _ _ _ _ => lN')
  refine iter_rangeT (n := 3) (fun m₀ i m₁ l => ∃ oS', Core w L pen l tb oTab oT oF oS' oP rest kvs es ∧ Like (Str.ofString "narrow") m₀ m₁ [])
    rfl lR (range_small (by omega) (by omega) (by omega) (by omega)) (by rw [range_size (by omega)]; rfl) lF' lN' ⟨oS, K, Like.start trivial⟩ ?_ ?_
  · rintro i t m₁ news₁ I oI h tk QT hQT hi ⟨oS', K', hL⟩ ho F₁ N₁
    have F₂ := hL.out F₁
    simp only [upd] at F₂
    obtain ⟨cS, dS⟩ := K'.cells.cS
    have hmC : (L + 1 + 1 + 1 + 1, oS') ∈ (I, oI) :: news₁ := .tail _ K'.inS
    have N7 := news_cell N₁ hmC
    have u1 : ∀ p ∈ offL (L + 1 + 1 + 1 + 1) ((I, oI) :: news₁), @Ne Nat p.1 (L + 1 + 1 + 1 + 1) := offL_ne
    have v1 : (I, oI) ∈ offL (L + 1 + 1 + 1 + 1) ((I, oI) :: news₁) := offL_mem.mpr ⟨.head _, fun e => ho _ K'.inS e.symm⟩
    have vR : ∀ p ∈ rest, p ∈ offL (L + 1 + 1 + 1 + 1) ((I, oI) :: news₁) := fun p hp => offL_mem.mpr ⟨.tail _ (K'.inRest p hp), by have := far p hp; show @Ne Nat _ _; omega⟩
    have vK : ∀ p ∈ news₁, @Ne Nat p.1 (L + 1 + 1 + 1 + 1) → p ∈ offL (L + 1 + 1 + 1 + 1) ((I, oI) :: news₁) := fun p hp hn => offL_mem.mpr ⟨.tail _ hp, hn⟩
    generalize offL (L + 1 + 1 + 1 + 1) ((I, oI) :: news₁) = O at *
    have vD := vR _ hdu
    clear F₁ lF' lN' N₁ hmC
    try k_fold
    ((repeat' ( (fail_if_success (with_reducible show wpAny _ _ (execs (Stmt.Return _ _ :: _) _) _ _ _)); (fail_if_success (with_reducible show wpAny _ _ (exec (Stmt.Assign [PySem.Expr.Name _ _] (PySem.Expr.ListComp _ _ _ _) _) _) _ _ _)); (fail_if_success (with_reducible show wpAny _ _ (call (Value.type "enumerate") _) _ _ _)); (fail_if_success (with_reducible show wpAny _ _ (call (Value.ref 165) _) _ _ _)); (fail_if_success (with_reducible show wpAny _ _ (subscriptTail _ _ (Value.ref _) (Value.int _ _)) _ _ _)); (fail_if_success (with_reducible show wpAny _ _ (pyIter (Value.ref _)) _ _ _)); (first | (k_unfold; (try dsimp only)) | (k_end; wrow_close) | ((with_reducible show wpAny _ _ (exec (Stmt.For _ _ _ _ _) _) _ _ _); (k_here; (rename Fr _ _ _ _ => lF'); (with_unfolding_all refine' For_turns (hE := ?hE) lF' ?_); (case hE => assumption); k_whole)) | walk1 | (dsimp only; walk1) | (leave1; walk_say "STEP leave1"; try dsimp only) | fail "no step"))); all_goals (try k_fold))
    (rename Fr _ _ _ _ => F5)
    (rename News _ _ _ _ => N5)
    obtain ⟨aS, oS2, e1, e2, -⟩ := led_o1 N5
    subst e1
    subst e2
    (rename oS2.data = _ => dS2)
    rename_i h5
    obtain ⟨M, FM, hM⟩ : ∃ M, (True → Fr h₀ L h5 M) ∧ M = _ := ⟨_, fun _ => F5, rfl⟩
    refine assign_comp_enum (h₀ := h₀) (L := L) (m := M) rfl (by with_unfolding_all rfl) (by with_unfolding_all rfl) (by decide) rfl (by decide) rfl rfl (by decide) rfl rfl rfl ?_
    ((repeat' ( (fail_if_success (with_reducible show wpAny _ _ (execs (Stmt.Return _ _ :: _) _) _ _ _)); (fail_if_success (with_reducible show wpAny _ _ (exec (Stmt.Assign [PySem.Expr.Name _ _] (PySem.Expr.ListComp _ _ _ _) _) _) _ _ _)); (fail_if_success (with_reducible show wpAny _ _ (call (Value.type "enumerate") _) _ _ _)); (fail_if_success (with_reducible show wpAny _ _ (call (Value.ref 165) _) _ _ _)); (fail_if_success (with_reducible show wpAny _ _ (subscriptTail _ _ (Value.ref _) (Value.int _ _)) _ _ _)); (fail_if_success (with_reducible show wpAny _ _ (pyIter (Value.ref _)) _ _ _)); (first | (k_unfold; (try dsimp only)) | (k_end; wrow_close) | ((with_reducible show wpAny _ _ (exec (Stmt.For _ _ _ _ _) _) _ _ _); (k_here; (rename Fr _ _ _ _ => lF'); (with_unfolding_all refine' For_turns (hE := ?hE) lF' ?_); (case hE => assumption); k_whole)) | walk1 | (dsimp only; walk1) | (leave1; walk_say "STEP leave1"; try dsimp only) | fail "no step"))); all_goals (try k_fold))
    refine call_enum_tup (items := #[.int (mixN es) t1, .int (topOne es : Nat) t2, .int (topTwo es : Nat) t3]) ⟨_, (N5 _ (.tail _ vD)).1, rfl, 0, rfl⟩ fun h6 hEn6 hI6 hk6 => ?_
    have FM6 := (FM trivial).keeps hk6
    have N6 := N5.grown hk6
    have tup6 : h6.IsTuple du #[.int (mixN es) t1, .int (topOne es : Nat) t2, .int (topTwo es : Nat) t3] := ⟨_, (N6 _ (.tail _ vD)).1, rfl, 0, rfl⟩
    have z5 : ∀ p ∈ (L + 1 + 1 + 1 + 1, oS2) :: O, @LT.lt Nat _ p.1 h5.objs.size := fun p hp => Heap.lt_size (N5 p hp).1
    have zL : @LT.lt Nat _ L h5.objs.size := F5.ns.lt
    have zD := z5 _ (.tail _ vD)
    dsimp only at hEn6 hI6
    try k_fold
    ((repeat' ( (fail_if_success (with_reducible show wpAny _ _ (execs (Stmt.Return _ _ :: _) _) _ _ _)); (fail_if_success (with_reducible show wpAny _ _ (exec (Stmt.Assign [PySem.Expr.Name _ _] (PySem.Expr.ListComp _ _ _ _) _) _) _ _ _)); (fail_if_success (with_reducible show wpAny _ _ (call (Value.type "enumerate") _) _ _ _)); (fail_if_success (with_reducible show wpAny _ _ (call (Value.ref 165) _) _ _ _)); (fail_if_success (with_reducible show wpAny _ _ (subscriptTail _ _ (Value.ref _) (Value.int _ _)) _ _ _)); (fail_if_success (with_reducible show wpAny _ _ (pyIter (Value.ref _)) _ _ _)); (first | (k_unfold; (try dsimp only)) | (k_end; wrow_close) | ((with_reducible show wpAny _ _ (exec (Stmt.For _ _ _ _ _) _) _ _ _); (k_here; (rename Fr _ _ _ _ => lF'); (with_unfolding_all refine' For_turns (hE := ?hE) lF' ?_); (case hE => assumption); k_whole)) | walk1 | (dsimp only; walk1) | (leave1; walk_say "STEP leave1"; try dsimp only) | fail "no step"))); all_goals (try k_fold))
    show SrcEnum _ _ _ _ _ _ _ _ _ _ _ _ _ _ _ _
    refine ⟨h5.objs.size + 1, h5.objs.size, du, _, (L + 1 + 1 + 1 + 1, oS2) :: O, fun j v => ∃ d t, (dueL es)[j]? = some d ∧ v = .int (d - (if ((j : Int) == 0 + (i : Int) * 1) = true then 1 else 0)) t, rfl, ⟨⟨_, hEn6⟩, hI6, tup6⟩, FM6, N6, ?a1, ?a2, ?a3, fun p hp => ?a4, fun p hp => ?a5, ktu_new F5 (Nat.le_succ _), ktu_new F5 (Nat.le_refl _), ?a6, ?a7, by show 3 ≤ sizeLine; rw [sizeLine_eq]; decide, ?turn, ?fin⟩
    case a1 => show @Ne Nat _ _; omega
    case a2 => show @Ne Nat _ _; omega
    case a3 => show @Ne Nat _ _; omega
    case a4 => have := z5 p hp; omega
    case a5 => have := z5 p hp; omega
    case a6 => show @Ne Nat _ _; omega
    case a7 => show @Ne Nat _ _; omega
    case turn =>
      rintro j x tt m₂ C oC h7 tk7 E' hx hoC hxa hxb F7 N7
      obtain ⟨d, td, rfl, hdd⟩ := ints_get (vs := [.int (mixN es) t1, .int (topOne es : Nat) t2, .int (topTwo es : Nat) t3]) (ns := dueL es) (.cons _ _ (.cons _ _ (.cons _ _ .nil))) (by rw [← List.getElem?_toArray]; exact hx)
      clear F5 N5 FM6 N6
      try k_fold
      ((repeat' ( (fail_if_success (with_reducible show wpAny _ _ (execs (Stmt.Return _ _ :: _) _) _ _ _)); (fail_if_success (with_reducible show wpAny _ _ (exec (Stmt.Assign [PySem.Expr.Name _ _] (PySem.Expr.ListComp _ _ _ _) _) _) _ _ _)); (fail_if_success (with_reducible show wpAny _ _ (call (Value.type "enumerate") _) _ _ _)); (fail_if_success (with_reducible show wpAny _ _ (call (Value.ref 165) _) _ _ _)); (fail_if_success (with_reducible show wpAny _ _ (subscriptTail _ _ (Value.ref _) (Value.int _ _)) _ _ _)); (fail_if_success (with_reducible show wpAny _ _ (pyIter (Value.ref _)) _ _ _)); (first | (k_unfold; (try dsimp only)) | (k_end; wrow_close) | ((with_reducible show wpAny _ _ (exec (Stmt.For _ _ _ _ _) _) _ _ _); (k_here; (rename Fr _ _ _ _ => lF'); (with_unfolding_all refine' For_turns (hE := ?hE) lF' ?_); (case hE => assumption); k_whole)) | walk1 | (dsimp only; walk1) | (leave1; walk_say "STEP leave1"; try dsimp only) | fail "no step"))); all_goals (try k_fold))
    case fin =>
      rintro D h7 tk7 ys hyl hP F7 N7 oD
      subst hM
      clear F5 N5 FM6 N6 FM
      dsimp only at F7
      have hit : ∃ d td, ([.int (mixN es) t1, .int (topOne es : Nat) t2, .int (topTwo es : Nat) t3] : List Value)[i]? = some (.int d td) ∧ (dueL es)[i]? = some d :=
        match i, hi with
        | 0, _ => ⟨_, _, rfl, rfl⟩
        | 1, _ => ⟨_, _, rfl, rfl⟩
        | 2, _ => ⟨_, _, rfl, rfl⟩
      obtain ⟨d, td, hit1, hit2⟩ := hit
      obtain ⟨v0, v1', v2', rfl⟩ : ∃ a b c, ys = [a, b, c] := match ys, hyl with | [a, b, c], _ => ⟨a, b, c, rfl⟩
      obtain ⟨d0, s0, g0, rfl⟩ := hP 0 v0 rfl
      obtain ⟨d1, s1, g1, rfl⟩ := hP 1 v1' rfl
      obtain ⟨d2, s2, g2, rfl⟩ := hP 2 v2' rfl
      obtain rfl := Option.some.inj g0
      obtain rfl := Option.some.inj g1
      obtain rfl := Option.some.inj g2
      clear hP hyl
      obtain ⟨nwF, KF, iF⟩ := K'.setS dS2
      have vF : ∀ p ∈ nwF, p ∈ (L + 1 + 1 + 1 + 1, oS2) :: O := fun p hp => by
        rcases iF p hp with e | ⟨h1, h2⟩
        · rw [e]; exact .head _
        · exact .tail _ (vK p h1 h2)
      have oF9 : ∀ p ∈ nwF, @Ne Nat p.1 I := fun p hp => by
        rcases iF p hp with e | ⟨h1, h2⟩
        · rw [e]; exact ho (L + 1 + 1 + 1 + 1, oS') K'.inS
        · exact ho p h1
      try k_fold
      ((repeat' ( (fail_if_success (with_reducible show wpAny _ _ (execs (Stmt.Return _ _ :: _) _) _ _ _)); (fail_if_success (with_reducible show wpAny _ _ (exec (Stmt.Assign [PySem.Expr.Name _ _] (PySem.Expr.ListComp _ _ _ _) _) _) _ _ _)); (fail_if_success (with_reducible show wpAny _ _ (call (Value.type "enumerate") _) _ _ _)); (fail_if_success (with_reducible show wpAny _ _ (call (Value.ref 165) _) _ _ _)); (fail_if_success (with_reducible show wpAny _ _ (subscriptTail _ _ (Value.ref _) (Value.int _ _)) _ _ _)); (fail_if_success (with_reducible show wpAny _ _ (pyIter (Value.ref _)) _ _ _)); (first | (k_unfold; (try dsimp only)) | (k_end; wrow_close) | ((with_reducible show wpAny _ _ (exec (Stmt.For _ _ _ _ _) _) _ _ _); (k_here; (rename Fr _ _ _ _ => lF'); (with_unfolding_all refine' For_turns (hE := ?hE) lF' ?_); (case hE => assumption); k_whole)) | walk1 | (dsimp only; walk1) | (leave1; walk_say "STEP leave1"; try dsimp only) | fail "no step"))); all_goals (try k_fold))
      refine item_tup N7 (n := 0) (its := [.int (mixN es) t1, .int (topOne es : Nat) t2, .int (topTwo es : Nat) t3]) (.tail _ (.tail _ vD)) (k := 0 + (i : Int) * 1) (by omega) (by omega) (by rw [show (0 + (i : Int) * 1).toNat = i by omega]; exact hit1) ?_
      try k_fold
      ((repeat' ( (fail_if_success (with_reducible show wpAny _ _ (execs (Stmt.Return _ _ :: _) _) _ _ _)); (fail_if_success (with_reducible show wpAny _ _ (exec (Stmt.Assign [PySem.Expr.Name _ _] (PySem.Expr.ListComp _ _ _ _) _) _) _ _ _)); (fail_if_success (with_reducible show wpAny _ _ (call (Value.type "enumerate") _) _ _ _)); (fail_if_success (with_reducible show wpAny _ _ (call (Value.ref 165) _) _ _ _)); (fail_if_success (with_reducible show wpAny _ _ (subscriptTail _ _ (Value.ref _) (Value.int _ _)) _ _ _)); (fail_if_success (with_reducible show wpAny _ _ (pyIter (Value.ref _)) _ _ _)); (first | (k_unfold; (try dsimp only)) | (k_end; wrow_close) | ((with_reducible show wpAny _ _ (exec (Stmt.For _ _ _ _ _) _) _ _ _); (k_here; (rename Fr _ _ _ _ => lF'); (with_unfolding_all refine' For_turns (hE := ?hE) lF' ?_); (case hE => assumption); k_whole)) | walk1 | (dsimp only; walk1) | (leave1; walk_say "STEP leave1"; try dsimp only) | fail "no step"))); all_goals (try k_fold))
      all_goals first
      | exact hQT _ _ <| TurnEnd.next F7 (news_sub N7 (news' := (I, oI) :: nwF) (List.forall_mem_cons.mpr ⟨.tail _ (.tail _ v1), fun p hp => .tail _ (vF p hp)⟩)) (fun p hp => nomatch hp) oF9 ⟨oS2, KF, trivial, fun z hx hz => by simp [hx]⟩
      | skip
      all_goals (
        obtain ⟨w0, w1, w2, h0, h1, h2, k0, k1', k2', hbad⟩ := narrow_ok K.tbl hit2 (by split <;> omega)
        rw [h0, h1, h2] at N7
        refine' doesTop_use (ir_does w ((D, LCg.lst [.int (w0 : Int) s0, .int (w1 : Int) s1, .int (w2 : Int) s2]) :: (L + 1 + 1 + 1 + 1, oS2) :: O) en oE kvsE es (hEn.mono fun p hp => .tail _ (.tail _ (vR p hp))) (by rw [hEn.ents.length]; omega) (by rw [hEn.ents.keys]; exact K.tbl.sorted) D w0 w1 w2 s0 s1 s2 3 k0 k1' k2' (.head _) (fun e he => ?hrg) hbad) ?k1 ?k2 ?k3 ?k4 ?k5 ?k6 ?k7 ?k8 ?_
        case hrg =>
          obtain ⟨q1, q2, q3, q4, q5⟩ := K.tbl.vals e he
          exact ⟨q1, q2, by omega, q4, by omega⟩
        walk_at "MY call"
        rintro v9 _ h9 tk9 ⟨rfl, rfl⟩ F9 N9
        clear F7 N7
        try k_fold
        ((repeat' ( (fail_if_success (with_reducible show wpAny _ _ (execs (Stmt.Return _ _ :: _) _) _ _ _)); (fail_if_success (with_reducible show wpAny _ _ (exec (Stmt.Assign [PySem.Expr.Name _ _] (PySem.Expr.ListComp _ _ _ _) _) _) _ _ _)); (fail_if_success (with_reducible show wpAny _ _ (call (Value.type "enumerate") _) _ _ _)); (fail_if_success (with_reducible show wpAny _ _ (call (Value.ref 165) _) _ _ _)); (fail_if_success (with_reducible show wpAny _ _ (subscriptTail _ _ (Value.ref _) (Value.int _ _)) _ _ _)); (fail_if_success (with_reducible show wpAny _ _ (pyIter (Value.ref _)) _ _ _)); (first | (k_unfold; (try dsimp only)) | (k_end; wrow_close) | ((with_reducible show wpAny _ _ (exec (Stmt.For _ _ _ _ _) _) _ _ _); (k_here; (rename Fr _ _ _ _ => lF'); (with_unfolding_all refine' For_turns (hE := ?hE) lF' ?_); (case hE => assumption); k_whole)) | walk1 | (dsimp only; walk1) | (leave1; walk_say "STEP leave1"; try dsimp only) | fail "no step"))); all_goals (try k_fold))
        exact hQT _ _ <| TurnEnd.next F9 (news_sub N9 (news' := (I, oI) :: nwF) (List.forall_mem_cons.mpr ⟨.tail _ (.tail _ v1), fun p hp => .tail _ (vF p hp)⟩)) (fun p hp => nomatch hp) oF9 ⟨oS2, KF, trivial, fun z hx hz => by simp [hx]⟩)
  · rintro h tk m' news' ⟨oS', K', hL⟩ F₁ N₁
    have F₂ := hL.out F₁
    dsimp only
    exact next _ _ ⟨_, en, du, _, _, _, tb, oTab, oT, oF, oS', oP, rest, _, kvs, es, oE, kvsE, fr_upd _ F₂ ⟨rfl, rfl, trivial⟩, N₁, K', hEn, hdu⟩
end
theorem st10 : ∀ (w : World) (h₀ : Heap) (L fa pen : Addr) (ccd : Value) (mean : ExcName → Option Value) (mg mb : Str → Option Value) (Q : Flow → Shared → Prop) (E : Value → Shared → Prop) (s : Shared)
    (B : Below callerA h₀ [] h₀) (X : (hd.heap_1 w.params).In h₀) (T : Top hview (looseW hview [Str.ofString "PaperError"]) mean mg mb h₀)
    (hE : PassesOwn (model PySem.Challenge.rw_og0136_01.row.prog w) (callerA.deeper (lawE L fa ccd)) (lawE L fa ccd) E)
    (I5 : Inv10 w h₀ L pen s.heap) (next : ∀ h tk, Inv10 w h₀ L pen h → wpAny (model PySem.Challenge.rw_og0136_01.row.prog w) (callerA.deeper (lawE L fa ccd)) (lawT 14 L fa ccd) Q E { s with heap := h, toks := tk }),
    wpAny (model PySem.Challenge.rw_og0136_01.row.prog w) (callerA.deeper (lawE L fa ccd)) (lawT 13 L fa ccd) Q E s := by
  intro w h₀ L fa pen ccd mean mg mb Q E s B X T hE I5 next
  obtain ⟨m, en, du, t1, t2, t3, tb, oTab, oT, oF, oS, oP, rest, news, kvs, es, oE, kvsE, F9, N9, K, hEn, hdu⟩ := I5
  obtain ⟨hp, gs, dr, tks, os⟩ := s
  exact (Classical.byContradiction fun hn => @Classical.epsilon_spec _ (fun x : (World) × (Heap) × (Addr) × (Addr) × (Addr) × (Value) × (ExcName → Option Value) × (Str → Option Value) × (Str → Option Value) × (Flow → Shared → Prop) × (Value → Shared → Prop) × (Heap) × (Array GenState) × (Drawn) × (Nat) × (OsState) × (Str → Option Value) × (Addr) × (Addr) × (Tok) × (Tok) × (Tok) × (Addr) × (Obj) × (Obj) × (Obj) × (Obj) × (Obj) × (Led) × (Led) × (List (Int × Value)) × (List Ent) × (Obj) × (List (Int × Value)) => ¬ Zst10.G (x.1) (x.2.1) (x.2.2.1) (x.2.2.2.1) (x.2.2.2.2.1) (x.2.2.2.2.2.1) (x.2.2.2.2.2.2.1) (x.2.2.2.2.2.2.2.1) (x.2.2.2.2.2.2.2.2.1) (x.2.2.2.2.2.2.2.2.2.1) (x.2.2.2.2.2.2.2.2.2.2.1) (x.2.2.2.2.2.2.2.2.2.2.2.1) (x.2.2.2.2.2.2.2.2.2.2.2.2.1) (x.2.2.2.2.2.2.2.2.2.2.2.2.2.1) (x.2.2.2.2.2.2.2.2.2.2.2.2.2.2.1) (x.2.2.2.2.2.2.2.2.2.2.2.2.2.2.2.1) (x.2.2.2.2.2.2.2.2.2.2.2.2.2.2.2.2.1) (x.2.2.2.2.2.2.2.2.2.2.2.2.2.2.2.2.2.1) (x.2.2.2.2.2.2.2.2.2.2.2.2.2.2.2.2.2.2.1) (x.2.2.2.2.2.2.2.2.2.2.2.2.2.2.2.2.2.2.2.1) (x.2.2.2.2.2.2.2.2.2.2.2.2.2.2.2.2.2.2.2.2.1) (x.2.2.2.2.2.2.2.2.2.2.2.2.2.2.2.2.2.2.2.2.2.1) (x.2.2.2.2.2.2.2.2.2.2.2.2.2.2.2.2.2.2.2.2.2.2.1) (x.2.2.2.2.2.2.2.2.2.2.2.2.2.2.2.2.2.2.2.2.2.2.2.1) (x.2.2.2.2.2.2.2.2.2.2.2.2.2.2.2.2.2.2.2.2.2.2.2.2.1) (x.2.2.2.2.2.2.2.2.2.2.2.2.2.2.2.2.2.2.2.2.2.2.2.2.2.1) (x.2.2.2.2.2.2.2.2.2.2.2.2.2.2.2.2.2.2.2.2.2.2.2.2.2.2.1) (x.2.2.2.2.2.2.2.2.2.2.2.2.2.2.2.2.2.2.2.2.2.2.2.2.2.2.2.1) (x.2.2.2.2.2.2.2.2.2.2.2.2.2.2.2.2.2.2.2.2.2.2.2.2.2.2.2.2.1) (x.2.2.2.2.2.2.2.2.2.2.2.2.2.2.2.2.2.2.2.2.2.2.2.2.2.2.2.2.2.1) (x.2.2.2.2.2.2.2.2.2.2.2.2.2.2.2.2.2.2.2.2.2.2.2.2.2.2.2.2.2.2.1) (x.2.2.2.2.2.2.2.2.2.2.2.2.2.2.2.2.2.2.2.2.2.2.2.2.2.2.2.2.2.2.2.1) (x.2.2.2.2.2.2.2.2.2.2.2.2.2.2.2.2.2.2.2.2.2.2.2.2.2.2.2.2.2.2.2.2.1) (x.2.2.2.2.2.2.2.2.2.2.2.2.2.2.2.2.2.2.2.2.2.2.2.2.2.2.2.2.2.2.2.2.2)) ⟨(w, h₀, L, fa, pen, ccd, mean, mg, mb, Q, E, hp, gs, dr, tks, os, m, en, du, t1, t2, t3, tb, oTab, oT, oF, oS, oP, rest, news, kvs, es, oE, kvsE), hn⟩ Zst10.main) B X T hE F9 N9 K hEn hdu next
end Mine
end
section
namespace Mine
section
variable {w : World} {A : Around} {E : Value → Shared → Prop} {s : Shared} {h₀ : Heap} {L d : Addr} {m : Str → Option Value} {news : Led} {o : Obj} {kvs : List (Int × Value)}
/-- min of a dict with int keys gives one of its keys -/
theorem min_dict {Q : Value → Shared → Prop} (hh : A.handled = none) (F : Fr h₀ L s.heap m) (N : News h₀ L s.heap news) (hm : (d, o) ∈ news) (hd : o.IsDictOf (PySem.intKind prg w) kvs) (lo : (d == sysModules) = false) (hne : 0 < kvs.length)
    (h : ∀ (h' : Heap) (i : Nat) (M : Int) (y : Value) (t : Tok) (tk : Nat), kvs[i]? = some (M, y) → (∀ p ∈ kvs, M ≤ p.1) → Fr h₀ L h' m → News h₀ L h' news → Q (.int M t) { s with heap := h', toks := tk }) :
    wpAny (model prg w) A (call (.builtin "min") [.ref d]) Q E s := by
  obtain ⟨ep, ha⟩ := KdkAt.of hd
  have hda := ha.dictAt (N _ hm).1
  have hlt : d < s.heap.objs.size := Heap.lt_size (N _ hm).1
  refine call_min_walk (wpAny_pyIter_dict lo hda ?_)
  refine ⟨_, _, _, _, _, _, _, rfl, Walks.dictKeys (knd := PySem.intKind prg w) (A := A.in1) hh s.heap.objs.size d (Nat.ne_of_lt hlt) kvs ep, ⟨⟨_, Heap.get?_push_size _ rfl, rfl, rfl⟩, hda.at' fun o e => Heap.get?_push_of_some _ e⟩, fun b hb => ?_, hne,
    CmpOf.ints_lt (fun i => (kvs[i]?.map (·.1)).getD 0) (fun i v hP => ?_), fun v h' tk hP hk => ?_⟩
  · show b < (s.heap.push _).objs.size
    rw [Heap.size_push]
    rcases List.mem_cons.mp hb with rfl | hb
    · exact Nat.lt_succ_self _
    · rw [List.mem_singleton.mp hb]; exact Nat.lt_succ_of_lt hlt
  · obtain ⟨k, y, hk, hv⟩ := hP
    obtain ⟨t, rfl⟩ := Value.isInt_shape hv
    exact ⟨t, by rw [hk]; rfl⟩
  · obtain ⟨k, y, hky, hv⟩ := hP
    obtain ⟨t, rfl⟩ := Value.isInt_shape hv
    have up : ∀ b o, s.heap.get? b = some o → h'.get? b = some o := fun b o e => hk b o (fun hb => by rw [List.mem_singleton.mp hb] at e; exact Nat.lt_irrefl _ (Heap.lt_size e)) (Heap.get?_push_of_some _ e)
    obtain ⟨-, h2⟩ := argBest_lt (fun i => (kvs[i]?.map (·.1)).getD 0) (kvs.length - 1)
    refine h h' _ k y t tk hky (fun p hp => ?_) (F.keeps up) (N.grown up)
    obtain ⟨j, hj⟩ := List.mem_iff_getElem?.mp hp
    have hjl : j < kvs.length := by
      rcases Nat.lt_or_ge j kvs.length with q | q
      · exact q
      · rw [List.getElem?_eq_none q] at hj; cases hj
    have h3 := h2 j (by omega)
    rw [hky, hj] at h3
    exact h3
end
theorem rst_div {n : Int} (h0 : 0 ≤ n) (j : Nat) : n.fdiv (256 ^ j) = rst n j := by
  obtain ⟨k, rfl⟩ := Int.eq_ofNat_of_zero_le h0
  rw [rst_nat, Int.fdiv_eq_ediv_of_nonneg _ (Int.le_of_lt (Int.pow_pos (by decide)))]
  rw [Int.natCast_ediv, Int.natCast_pow]
  rfl
end Mine
end
section
theorem Mine.offL11 : True := by w_top off; trivial
namespace Mine
theorem low_at (n : Int) {j : Nat} (h : j < 6) : (low n 6).reverse[j]? = some ((rst n (5 - j)).fmod 256) :=
  match j, h with
  | 0, _ => rfl
  | 1, _ => rfl
  | 2, _ => rfl
  | 3, _ => rfl
  | 4, _ => rfl
  | 5, _ => rfl
local macro_rules | `(tactic| walk_at "call type:bytes") => `(tactic| (k_here; (with_reducible show wpAny _ _ (call (Value.type _) [Value.ref _]) _ _ _); k_dflt (refine' bytes_K ?F ?N ?l ?i ?r ?z ?h ?_; (case F => k_asm); (case N => k_asm); (case l => exact News.isList (by k_asm) (by k_mem)); (case i => assumption); (case r => exact fun x hx => low_range _ _ x (List.mem_reverse.mp hx)); (case z => exact fit100' (by assumption)); (case h => exact rfl)); intro h' t' k' F' N' hB'))
noncomputable def Zst11.G (w : World) (h₀ : Heap) (L : Addr) (fa : Addr) (pen : Addr) (ccd : Value) (mean : ExcName → Option Value) (mg : Str → Option Value) (mb : Str → Option Value) (Q : Flow → Shared → Prop) (E : Value → Shared → Prop) (hp : Heap) (gs : Array GenState) (dr : Drawn) (tks : Nat) (os : OsState) (m : Str → Option Value) (en : Addr) (du : Addr) (t1 : Tok) (t2 : Tok) (t3 : Tok) (tb : Addr) (oTab : Obj) (oT : Obj) (oF : Obj) (oS : Obj) (oP : Obj) (rest : Led) (news : Led) (kvs : List (Int × Value)) (es : List Ent) (oE : Obj) (kvsE : List (Int × Value)) : Prop :=
  ∀ (B : Below callerA h₀ [] h₀), ∀ (X : (hd.heap_1 w.params).In h₀), ∀ (T : Top hview (looseW hview [Str.ofString "PaperError"]) mean mg mb h₀), ∀ (F9 : Fr h₀ L hp (upd [(Str.ofString "entries", some (.ref en)), (Str.ofString "due", some (.ref du))] m)), ∀ (N9 : News h₀ L hp news), ∀ (K : Core w L pen news tb oTab oT oF oS oP rest kvs es), ∀ (hEn : EntTab w rest en oE kvsE es), ∀ (hdu : (du, tup3 (mixN es) (topOne es : Nat) (topTwo es : Nat) t1 t2 t3) ∈ rest), ∀ (next : ∀ h tk m news, Fr h₀ L h m → News h₀ L h news → Q (.ret (.bool true)) (⟨h, gs, dr, tk, os⟩ : Shared)), wpAny (model PySem.Challenge.rw_og0136_01.row.prog w) (callerA.deeper (lawE L fa ccd)) (lawT 14 L fa ccd) Q E ⟨hp, gs, dr, tks, os⟩
noncomputable def Zst11.c : (World) × (Heap) × (Addr) × (Addr) × (Addr) × (Value) × (ExcName → Option Value) × (Str → Option Value) × (Str → Option Value) × (Flow → Shared → Prop) × (Value → Shared → Prop) × (Heap) × (Array GenState) × (Drawn) × (Nat) × (OsState) × (Str → Option Value) × (Addr) × (Addr) × (Tok) × (Tok) × (Tok) × (Addr) × (Obj) × (Obj) × (Obj) × (Obj) × (Obj) × (Led) × (Led) × (List (Int × Value)) × (List Ent) × (Obj) × (List (Int × Value)) :=
  @Classical.epsilon _ ⟨((aWorld 0 : World), (default : Heap), (default : Addr), (default : Addr), (default : Addr), (default : Value), (fun _ => none : ExcName → Option Value), (fun _ => none : Str → Option Value), (fun _ => none : Str → Option Value), (fun _ _ => True : Flow → Shared → Prop), (fun _ _ => True : Value → Shared → Prop), (default : Heap), (#[] : Array GenState), ({} : Drawn), (default : Nat), ({} : OsState), (fun _ => none : Str → Option Value), (default : Addr), (default : Addr), (default : Tok), (default : Tok), (default : Tok), (default : Addr), (default : Obj), (default : Obj), (default : Obj), (default : Obj), (default : Obj), (default : Led), (default : Led), (default : List (Int × Value)), (default : List Ent), (default : Obj), (default : List (Int × Value)))⟩ fun x => ¬ Zst11.G (x.1) (x.2.1) (x.2.2.1) (x.2.2.2.1) (x.2.2.2.2.1) (x.2.2.2.2.2.1) (x.2.2.2.2.2.2.1) (x.2.2.2.2.2.2.2.1) (x.2.2.2.2.2.2.2.2.1) (x.2.2.2.2.2.2.2.2.2.1) (x.2.2.2.2.2.2.2.2.2.2.1) (x.2.2.2.2.2.2.2.2.2.2.2.1) (x.2.2.2.2.2.2.2.2.2.2.2.2.1) (x.2.2.2.2.2.2.2.2.2.2.2.2.2.1) (x.2.2.2.2.2.2.2.2.2.2.2.2.2.2.1) (x.2.2.2.2.2.2.2.2.2.2.2.2.2.2.2.1) (x.2.2.2.2.2.2.2.2.2.2.2.2.2.2.2.2.1) (x.2.2.2.2.2.2.2.2.2.2.2.2.2.2.2.2.2.1) (x.2.2.2.2.2.2.2.2.2.2.2.2.2.2.2.2.2.2.1) (x.2.2.2.2.2.2.2.2.2.2.2.2.2.2.2.2.2.2.2.1) (x.2.2.2.2.2.2.2.2.2.2.2.2.2.2.2.2.2.2.2.2.1) (x.2.2.2.2.2.2.2.2.2.2.2.2.2.2.2.2.2.2.2.2.2.1) (x.2.2.2.2.2.2.2.2.2.2.2.2.2.2.2.2.2.2.2.2.2.2.1) (x.2.2.2.2.2.2.2.2.2.2.2.2.2.2.2.2.2.2.2.2.2.2.2.1) (x.2.2.2.2.2.2.2.2.2.2.2.2.2.2.2.2.2.2.2.2.2.2.2.2.1) (x.2.2.2.2.2.2.2.2.2.2.2.2.2.2.2.2.2.2.2.2.2.2.2.2.2.1) (x.2.2.2.2.2.2.2.2.2.2.2.2.2.2.2.2.2.2.2.2.2.2.2.2.2.2.1) (x.2.2.2.2.2.2.2.2.2.2.2.2.2.2.2.2.2.2.2.2.2.2.2.2.2.2.2.1) (x.2.2.2.2.2.2.2.2.2.2.2.2.2.2.2.2.2.2.2.2.2.2.2.2.2.2.2.2.1) (x.2.2.2.2.2.2.2.2.2.2.2.2.2.2.2.2.2.2.2.2.2.2.2.2.2.2.2.2.2.1) (x.2.2.2.2.2.2.2.2.2.2.2.2.2.2.2.2.2.2.2.2.2.2.2.2.2.2.2.2.2.2.1) (x.2.2.2.2.2.2.2.2.2.2.2.2.2.2.2.2.2.2.2.2.2.2.2.2.2.2.2.2.2.2.2.1) (x.2.2.2.2.2.2.2.2.2.2.2.2.2.2.2.2.2.2.2.2.2.2.2.2.2.2.2.2.2.2.2.2.1) (x.2.2.2.2.2.2.2.2.2.2.2.2.2.2.2.2.2.2.2.2.2.2.2.2.2.2.2.2.2.2.2.2.2)
noncomputable def Zst11.V.w : World := Zst11.c.1
noncomputable def Zst11.V.h₀ : Heap := Zst11.c.2.1
noncomputable def Zst11.V.L : Addr := Zst11.c.2.2.1
noncomputable def Zst11.V.fa : Addr := Zst11.c.2.2.2.1
noncomputable def Zst11.V.pen : Addr := Zst11.c.2.2.2.2.1
noncomputable def Zst11.V.ccd : Value := Zst11.c.2.2.2.2.2.1
noncomputable def Zst11.V.mean : ExcName → Option Value := Zst11.c.2.2.2.2.2.2.1
noncomputable def Zst11.V.mg : Str → Option Value := Zst11.c.2.2.2.2.2.2.2.1
noncomputable def Zst11.V.mb : Str → Option Value := Zst11.c.2.2.2.2.2.2.2.2.1
noncomputable def Zst11.V.Q : Flow → Shared → Prop := Zst11.c.2.2.2.2.2.2.2.2.2.1
noncomputable def Zst11.V.E : Value → Shared → Prop := Zst11.c.2.2.2.2.2.2.2.2.2.2.1
noncomputable def Zst11.V.hp : Heap := Zst11.c.2.2.2.2.2.2.2.2.2.2.2.1
noncomputable def Zst11.V.gs : Array GenState := Zst11.c.2.2.2.2.2.2.2.2.2.2.2.2.1
noncomputable def Zst11.V.dr : Drawn := Zst11.c.2.2.2.2.2.2.2.2.2.2.2.2.2.1
noncomputable def Zst11.V.tks : Nat := Zst11.c.2.2.2.2.2.2.2.2.2.2.2.2.2.2.1
noncomputable def Zst11.V.os : OsState := Zst11.c.2.2.2.2.2.2.2.2.2.2.2.2.2.2.2.1
noncomputable def Zst11.V.m : Str → Option Value := Zst11.c.2.2.2.2.2.2.2.2.2.2.2.2.2.2.2.2.1
noncomputable def Zst11.V.en : Addr := Zst11.c.2.2.2.2.2.2.2.2.2.2.2.2.2.2.2.2.2.1
noncomputable def Zst11.V.du : Addr := Zst11.c.2.2.2.2.2.2.2.2.2.2.2.2.2.2.2.2.2.2.1
noncomputable def Zst11.V.t1 : Tok := Zst11.c.2.2.2.2.2.2.2.2.2.2.2.2.2.2.2.2.2.2.2.1
noncomputable def Zst11.V.t2 : Tok := Zst11.c.2.2.2.2.2.2.2.2.2.2.2.2.2.2.2.2.2.2.2.2.1
noncomputable def Zst11.V.t3 : Tok := Zst11.c.2.2.2.2.2.2.2.2.2.2.2.2.2.2.2.2.2.2.2.2.2.1
noncomputable def Zst11.V.tb : Addr := Zst11.c.2.2.2.2.2.2.2.2.2.2.2.2.2.2.2.2.2.2.2.2.2.2.1
noncomputable def Zst11.V.oTab : Obj := Zst11.c.2.2.2.2.2.2.2.2.2.2.2.2.2.2.2.2.2.2.2.2.2.2.2.1
noncomputable def Zst11.V.oT : Obj := Zst11.c.2.2.2.2.2.2.2.2.2.2.2.2.2.2.2.2.2.2.2.2.2.2.2.2.1
noncomputable def Zst11.V.oF : Obj := Zst11.c.2.2.2.2.2.2.2.2.2.2.2.2.2.2.2.2.2.2.2.2.2.2.2.2.2.1
noncomputable def Zst11.V.oS : Obj := Zst11.c.2.2.2.2.2.2.2.2.2.2.2.2.2.2.2.2.2.2.2.2.2.2.2.2.2.2.1
noncomputable def Zst11.V.oP : Obj := Zst11.c.2.2.2.2.2.2.2.2.2.2.2.2.2.2.2.2.2.2.2.2.2.2.2.2.2.2.2.1
noncomputable def Zst11.V.rest : Led := Zst11.c.2.2.2.2.2.2.2.2.2.2.2.2.2.2.2.2.2.2.2.2.2.2.2.2.2.2.2.2.1
noncomputable def Zst11.V.news : Led := Zst11.c.2.2.2.2.2.2.2.2.2.2.2.2.2.2.2.2.2.2.2.2.2.2.2.2.2.2.2.2.2.1
noncomputable def Zst11.V.kvs : List (Int × Value) := Zst11.c.2.2.2.2.2.2.2.2.2.2.2.2.2.2.2.2.2.2.2.2.2.2.2.2.2.2.2.2.2.2.1
noncomputable def Zst11.V.es : List Ent := Zst11.c.2.2.2.2.2.2.2.2.2.2.2.2.2.2.2.2.2.2.2.2.2.2.2.2.2.2.2.2.2.2.2.1
noncomputable def Zst11.V.oE : Obj := Zst11.c.2.2.2.2.2.2.2.2.2.2.2.2.2.2.2.2.2.2.2.2.2.2.2.2.2.2.2.2.2.2.2.2.1
noncomputable def Zst11.V.kvsE : List (Int × Value) := Zst11.c.2.2.2.2.2.2.2.2.2.2.2.2.2.2.2.2.2.2.2.2.2.2.2.2.2.2.2.2.2.2.2.2.2
section
open Zst11.V
set_option maxHeartbeats 8000000 in
theorem Zst11.main : Zst11.G Zst11.V.w Zst11.V.h₀ Zst11.V.L Zst11.V.fa Zst11.V.pen Zst11.V.ccd Zst11.V.mean Zst11.V.mg Zst11.V.mb Zst11.V.Q Zst11.V.E Zst11.V.hp Zst11.V.gs Zst11.V.dr Zst11.V.tks Zst11.V.os Zst11.V.m Zst11.V.en Zst11.V.du Zst11.V.t1 Zst11.V.t2 Zst11.V.t3 Zst11.V.tb Zst11.V.oTab Zst11.V.oT Zst11.V.oF Zst11.V.oS Zst11.V.oP Zst11.V.rest Zst11.V.news Zst11.V.kvs Zst11.V.es Zst11.V.oE Zst11.V.kvsE := by
  unfold Zst11.G
  k_fill
  intro B X T F9 N9 K hEn hdu next
  have dT := K.cells.cT
  have hmT := K.inTab
  have hmC := K.inT
  have lo := K.lo
  have hdT := K.dict
  have hkl : kvs.length = es.length := K.tups.length
  have hes0 := K.pos
  try dsimp only at F9 N9
  simp only [upd] at F9
  dsimp only [lawE, lawT, lawB, List.drop]
  try k_fold
  ((repeat' ( (fail_if_success (with_reducible show wpAny _ _ (call (Value.builtin "min") _) _ _ _)); (fail_if_success (with_reducible show wpAny _ _ (eval (PySem.Expr.ListComp _ _ _ _) _) _ _ _)); (fail_if_success (with_reducible show wpAny _ _ (call (Value.ref 104) _) _ _ _)); (fail_if_success (with_reducible show LCg.CompSrc _ _ _ _ _ _ _ _ _ _ _ _ _ _)); (fail_if_success (with_reducible show wpAny _ _ (subscriptTail _ _ (Value.ref _) (Value.int 1 _)) _ _ _)); (first | (k_unfold; (try dsimp only)) | (k_end; wrow_close) | walk1 | (dsimp only; walk1) | (leave1; walk_say "STEP leave1"; try dsimp only) | fail "no step"))); all_goals (try k_fold))
  refine min_dict rfl F9 N9 hmT hdT lo (by omega) ?_
  rintro h1 i M y t tk hky hmin F8 N8
  obtain ⟨e, x, he, rfl, rfl, a1, a2, a3, hx3⟩ := K.tups.get hky
  have hat := valueAt_of_get (keysNodup_of_isDictOf hdT) hky
  have hx4 := K.inRest _ hx3
  unfold tupD at hx4
  obtain ⟨v1, v2, v3, v4, v5⟩ := K.tbl.vals e (List.mem_of_getElem? he)
  clear F9 N9
  try k_fold
  clear hx3
  ((repeat' ( (fail_if_success (with_reducible show wpAny _ _ (call (Value.builtin "min") _) _ _ _)); (fail_if_success (with_reducible show wpAny _ _ (eval (PySem.Expr.ListComp _ _ _ _) _) _ _ _)); (fail_if_success (with_reducible show wpAny _ _ (call (Value.ref 104) _) _ _ _)); (fail_if_success (with_reducible show LCg.CompSrc _ _ _ _ _ _ _ _ _ _ _ _ _ _)); (fail_if_success (with_reducible show wpAny _ _ (subscriptTail _ _ (Value.ref _) (Value.int 1 _)) _ _ _)); (first | (k_unfold; (try dsimp only)) | (k_end; wrow_close) | walk1 | (dsimp only; walk1) | (leave1; walk_say "STEP leave1"; try dsimp only) | fail "no step"))); all_goals (try k_fold))
  refine item_tup (by k_asm) (n := 0) (its := [.str e.way a1, .int e.one a2, .int e.two a3]) (by walk_at "MY in") (by decide) (by decide) rfl ?_ (by with_unfolding_all rfl)
  try k_fold
  ((repeat' ( (fail_if_success (with_reducible show wpAny _ _ (call (Value.builtin "min") _) _ _ _)); (fail_if_success (with_reducible show wpAny _ _ (eval (PySem.Expr.ListComp _ _ _ _) _) _ _ _)); (fail_if_success (with_reducible show wpAny _ _ (call (Value.ref 104) _) _ _ _)); (fail_if_success (with_reducible show LCg.CompSrc _ _ _ _ _ _ _ _ _ _ _ _ _ _)); (fail_if_success (with_reducible show wpAny _ _ (subscriptTail _ _ (Value.ref _) (Value.int 1 _)) _ _ _)); (first | (k_unfold; (try dsimp only)) | (k_end; wrow_close) | walk1 | (dsimp only; walk1) | (leave1; walk_say "STEP leave1"; try dsimp only) | fail "no step"))); all_goals (try k_fold))
  refine' does_use (fo_does w news e.one 6 _ _ (by decide) (rst_fits v2 (Nat.le_trans (wid_small (by omega)) (by decide)))) ?k1 ?k2 ?k3 ?k4 ?k5 ?k6 ?k7 ?k8 ?_
  walk_at "MY call"
  rintro v9 news9 h9 tk9 ⟨⟨tb9, rfl⟩, hn9⟩ F7 N7
  have hn9' := hn9.symm
  subst hn9'
  clear hn9
  clear F8 N8
  try k_fold
  ((repeat' ( (fail_if_success (with_reducible show wpAny _ _ (call (Value.builtin "min") _) _ _ _)); (fail_if_success (with_reducible show wpAny _ _ (eval (PySem.Expr.ListComp _ _ _ _) _) _ _ _)); (fail_if_success (with_reducible show wpAny _ _ (call (Value.ref 104) _) _ _ _)); (fail_if_success (with_reducible show LCg.CompSrc _ _ _ _ _ _ _ _ _ _ _ _ _ _)); (fail_if_success (with_reducible show wpAny _ _ (subscriptTail _ _ (Value.ref _) (Value.int 1 _)) _ _ _)); (first | (k_unfold; (try dsimp only)) | (k_end; wrow_close) | walk1 | (dsimp only; walk1) | (leave1; walk_say "STEP leave1"; try dsimp only) | fail "no step"))); all_goals (try k_fold))
  refine LCg.ListComp_U (F₀ := F7) (by with_unfolding_all rfl) (by decide) rfl (by decide) rfl ?_
  ((repeat' ( (fail_if_success (with_reducible show wpAny _ _ (call (Value.builtin "min") _) _ _ _)); (fail_if_success (with_reducible show wpAny _ _ (eval (PySem.Expr.ListComp _ _ _ _) _) _ _ _)); (fail_if_success (with_reducible show wpAny _ _ (call (Value.ref 104) _) _ _ _)); (fail_if_success (with_reducible show LCg.CompSrc _ _ _ _ _ _ _ _ _ _ _ _ _ _)); (fail_if_success (with_reducible show wpAny _ _ (subscriptTail _ _ (Value.ref _) (Value.int 1 _)) _ _ _)); (first | (k_unfold; (try dsimp only)) | (k_end; wrow_close) | walk1 | (dsimp only; walk1) | (leave1; walk_say "STEP leave1"; try dsimp only) | fail "no step"))); all_goals (try k_fold))
  (rename IsRange _ _ _ _ _ _ _ _ => lR)
  (rename Fr _ _ _ _ => lF')
  (rename News _ _ _ _ => lN')
  refine .inr ⟨_, _, _, _, _, _, 6, news, rfl, rfl, lF', lN', lR, by decide, by decide, by rw [sizeLine_eq]; decide, fun s₂ hs₂ => ?_⟩
  obtain ⟨g, rfl⟩ := hs₂
  refine rest_of_inv (fun i ys nw => news = nw ∧ IntsAre ys ((low e.one 6).reverse.take i)) 6 ?hS ?hF ?turn 6 0 [] _ (Nat.zero_add _) ⟨rfl, .nil⟩
  case hS => intros; trivial
  case turn =>
    rintro j v ys nw I oI Cc oC D m₂ h tk E' QE hQE hj ⟨tv, rfl⟩ ⟨rfl, hys⟩ hoC hx F₁ N₁ oI1 oC1 oD1 n1 n2 n3
    clear lF' lN'
    try k_fold
    ((repeat' ( (fail_if_success (with_reducible show wpAny _ _ (call (Value.builtin "min") _) _ _ _)); (fail_if_success (with_reducible show wpAny _ _ (eval (PySem.Expr.ListComp _ _ _ _) _) _ _ _)); (fail_if_success (with_reducible show wpAny _ _ (call (Value.ref 104) _) _ _ _)); (fail_if_success (with_reducible show LCg.CompSrc _ _ _ _ _ _ _ _ _ _ _ _ _ _)); (fail_if_success (with_reducible show wpAny _ _ (subscriptTail _ _ (Value.ref _) (Value.int 1 _)) _ _ _)); (first | (k_unfold; (try dsimp only)) | (k_end; wrow_close) | walk1 | (dsimp only; walk1) | (leave1; walk_say "STEP leave1"; try dsimp only) | fail "no step"))); all_goals (try k_fold))
    refine min_dict rfl F₁ N₁ (by walk_at "MY in") hdT lo (by omega) ?_
    rintro h2 i2 M2 y2 tt2 tk2 hky2 hmin2 F2 N2
    have eM : M2 = e.key := by
      have q1 := hmin _ (List.mem_of_getElem? hky2)
      have q2 := hmin2 _ (List.mem_of_getElem? hky)
      dsimp only at q1 q2
      omega
    subst eM
    clear F₁ N₁ hky2 hmin2
    try k_fold
    ((repeat' ( (fail_if_success (with_reducible show wpAny _ _ (call (Value.builtin "min") _) _ _ _)); (fail_if_success (with_reducible show wpAny _ _ (eval (PySem.Expr.ListComp _ _ _ _) _) _ _ _)); (fail_if_success (with_reducible show wpAny _ _ (call (Value.ref 104) _) _ _ _)); (fail_if_success (with_reducible show LCg.CompSrc _ _ _ _ _ _ _ _ _ _ _ _ _ _)); (fail_if_success (with_reducible show wpAny _ _ (subscriptTail _ _ (Value.ref _) (Value.int 1 _)) _ _ _)); (first | (k_unfold; (try dsimp only)) | (k_end; wrow_close) | walk1 | (dsimp only; walk1) | (leave1; walk_say "STEP leave1"; try dsimp only) | fail "no step"))); all_goals (try k_fold))
    refine item_tup (by k_asm) (n := 0) (its := [.str e.way a1, .int e.one a2, .int e.two a3]) (by walk_at "MY in") (by decide) (by decide) rfl ?_ (by with_unfolding_all rfl)
    try k_fold
    ((repeat' ( (fail_if_success (with_reducible show wpAny _ _ (call (Value.builtin "min") _) _ _ _)); (fail_if_success (with_reducible show wpAny _ _ (eval (PySem.Expr.ListComp _ _ _ _) _) _ _ _)); (fail_if_success (with_reducible show wpAny _ _ (call (Value.ref 104) _) _ _ _)); (fail_if_success (with_reducible show LCg.CompSrc _ _ _ _ _ _ _ _ _ _ _ _ _ _)); (fail_if_success (with_reducible show wpAny _ _ (subscriptTail _ _ (Value.ref _) (Value.int 1 _)) _ _ _)); (first | (k_unfold; (try dsimp only)) | (k_end; wrow_close) | walk1 | (dsimp only; walk1) | (leave1; walk_say "STEP leave1"; try dsimp only) | fail "no step"))); all_goals (try k_fold))
    · exact absurd ‹(256 : Int) ^ _ = 0› (Int.ne_of_gt (Int.pow_pos (by decide)))
    · have hsn : (low e.one 6).reverse.take (j + 1) = (low e.one 6).reverse.take j ++ [(e.one.fdiv (256 ^ (5 - (0 + (j : Int))).toNat)).fmod 256] := by
        rw [List.take_add_one, low_at _ hj, rst_div v2, show (5 - (0 + (j : Int))).toNat = 5 - j by omega]
        rfl
      exact hQE _ _ ⟨_, _, news, rfl, F2, N2, oI1, oC1, oD1, rfl, by rw [hsn]; exact ints_snoc hys _ _⟩
  case hF =>
    rintro ys nw ⟨rfl, hys⟩
    rw [List.take_of_length_le (by rw [List.length_reverse, low_length]; decide)] at hys
    show LCg.FinE _ _ _ _ _ _ _
    unfold LCg.FinE
    intro D h tk F₁ N₁ o1
    have hyl : ys.length ≤ 100 := by rw [hys.length, List.length_reverse, low_length]; decide
    clear lF' lN'
    try k_fold
    ((repeat' ( (fail_if_success (with_reducible show wpAny _ _ (call (Value.builtin "min") _) _ _ _)); (fail_if_success (with_reducible show wpAny _ _ (eval (PySem.Expr.ListComp _ _ _ _) _) _ _ _)); (fail_if_success (with_reducible show wpAny _ _ (call (Value.ref 104) _) _ _ _)); (fail_if_success (with_reducible show LCg.CompSrc _ _ _ _ _ _ _ _ _ _ _ _ _ _)); (fail_if_success (with_reducible show wpAny _ _ (subscriptTail _ _ (Value.ref _) (Value.int 1 _)) _ _ _)); (first | (k_unfold; (try dsimp only)) | (k_end; wrow_close) | walk1 | (dsimp only; walk1) | (leave1; walk_say "STEP leave1"; try dsimp only) | fail "no step"))); all_goals (try k_fold))
    (rename Fr _ _ _ _ => lF')
    (rename News _ _ _ _ => lN')
    have eB : ((octs e.one 6).toList == (List.map (fun n => n.toNat.toUInt8) (low e.one 6).reverse).toArray.toList) = true := by
      rw [octs_toList, beq_iff_eq]
    rw [eB]
    exact next _ _ _ _ lF' lN'
end
theorem st11 : ∀ (w : World) (h₀ : Heap) (L fa pen : Addr) (ccd : Value) (mean : ExcName → Option Value) (mg mb : Str → Option Value) (Q : Flow → Shared → Prop) (E : Value → Shared → Prop) (s : Shared)
    (B : Below callerA h₀ [] h₀) (X : (hd.heap_1 w.params).In h₀) (T : Top hview (looseW hview [Str.ofString "PaperError"]) mean mg mb h₀)
    (I5 : Inv10 w h₀ L pen s.heap) (next : ∀ h tk m news, Fr h₀ L h m → News h₀ L h news → Q (.ret (.bool true)) { s with heap := h, toks := tk }),
    wpAny (model PySem.Challenge.rw_og0136_01.row.prog w) (callerA.deeper (lawE L fa ccd)) (lawT 14 L fa ccd) Q E s := by
  intro w h₀ L fa pen ccd mean mg mb Q E s B X T I5 next
  obtain ⟨m, en, du, t1, t2, t3, tb, oTab, oT, oF, oS, oP, rest, news, kvs, es, oE, kvsE, F9, N9, K, hEn, hdu⟩ := I5
  obtain ⟨hp, gs, dr, tks, os⟩ := s
  exact (Classical.byContradiction fun hn => @Classical.epsilon_spec _ (fun x : (World) × (Heap) × (Addr) × (Addr) × (Addr) × (Value) × (ExcName → Option Value) × (Str → Option Value) × (Str → Option Value) × (Flow → Shared → Prop) × (Value → Shared → Prop) × (Heap) × (Array GenState) × (Drawn) × (Nat) × (OsState) × (Str → Option Value) × (Addr) × (Addr) × (Tok) × (Tok) × (Tok) × (Addr) × (Obj) × (Obj) × (Obj) × (Obj) × (Obj) × (Led) × (Led) × (List (Int × Value)) × (List Ent) × (Obj) × (List (Int × Value)) => ¬ Zst11.G (x.1) (x.2.1) (x.2.2.1) (x.2.2.2.1) (x.2.2.2.2.1) (x.2.2.2.2.2.1) (x.2.2.2.2.2.2.1) (x.2.2.2.2.2.2.2.1) (x.2.2.2.2.2.2.2.2.1) (x.2.2.2.2.2.2.2.2.2.1) (x.2.2.2.2.2.2.2.2.2.2.1) (x.2.2.2.2.2.2.2.2.2.2.2.1) (x.2.2.2.2.2.2.2.2.2.2.2.2.1) (x.2.2.2.2.2.2.2.2.2.2.2.2.2.1) (x.2.2.2.2.2.2.2.2.2.2.2.2.2.2.1) (x.2.2.2.2.2.2.2.2.2.2.2.2.2.2.2.1) (x.2.2.2.2.2.2.2.2.2.2.2.2.2.2.2.2.1) (x.2.2.2.2.2.2.2.2.2.2.2.2.2.2.2.2.2.1) (x.2.2.2.2.2.2.2.2.2.2.2.2.2.2.2.2.2.2.1) (x.2.2.2.2.2.2.2.2.2.2.2.2.2.2.2.2.2.2.2.1) (x.2.2.2.2.2.2.2.2.2.2.2.2.2.2.2.2.2.2.2.2.1) (x.2.2.2.2.2.2.2.2.2.2.2.2.2.2.2.2.2.2.2.2.2.1) (x.2.2.2.2.2.2.2.2.2.2.2.2.2.2.2.2.2.2.2.2.2.2.1) (x.2.2.2.2.2.2.2.2.2.2.2.2.2.2.2.2.2.2.2.2.2.2.2.1) (x.2.2.2.2.2.2.2.2.2.2.2.2.2.2.2.2.2.2.2.2.2.2.2.2.1) (x.2.2.2.2.2.2.2.2.2.2.2.2.2.2.2.2.2.2.2.2.2.2.2.2.2.1) (x.2.2.2.2.2.2.2.2.2.2.2.2.2.2.2.2.2.2.2.2.2.2.2.2.2.2.1) (x.2.2.2.2.2.2.2.2.2.2.2.2.2.2.2.2.2.2.2.2.2.2.2.2.2.2.2.1) (x.2.2.2.2.2.2.2.2.2.2.2.2.2.2.2.2.2.2.2.2.2.2.2.2.2.2.2.2.1) (x.2.2.2.2.2.2.2.2.2.2.2.2.2.2.2.2.2.2.2.2.2.2.2.2.2.2.2.2.2.1) (x.2.2.2.2.2.2.2.2.2.2.2.2.2.2.2.2.2.2.2.2.2.2.2.2.2.2.2.2.2.2.1) (x.2.2.2.2.2.2.2.2.2.2.2.2.2.2.2.2.2.2.2.2.2.2.2.2.2.2.2.2.2.2.2.1) (x.2.2.2.2.2.2.2.2.2.2.2.2.2.2.2.2.2.2.2.2.2.2.2.2.2.2.2.2.2.2.2.2.1) (x.2.2.2.2.2.2.2.2.2.2.2.2.2.2.2.2.2.2.2.2.2.2.2.2.2.2.2.2.2.2.2.2.2)) ⟨(w, h₀, L, fa, pen, ccd, mean, mg, mb, Q, E, hp, gs, dr, tks, os, m, en, du, t1, t2, t3, tb, oTab, oT, oF, oS, oP, rest, news, kvs, es, oE, kvsE), hn⟩ Zst11.main) B X T F9 N9 K hEn hdu next
end Mine
end
section
namespace Mine
/-- the whole law behind its pen -/
theorem chain : ∀ (w : World) (h₀ : Heap) (L fa pen cl : Addr) (ccd : Value) (mean : ExcName → Option Value) (mg mb : Str → Option Value) (Q : Flow → Shared → Prop) (E : Value → Shared → Prop) (s : Shared) (m : Str → Option Value) (tk tr : Tok) (vs : List Value) (ns : List Int) (n : Nat) (oS oF oT oP : Obj)
    (B : Below callerA h₀ [] h₀) (X : (hd.heap_1 w.params).In h₀) (T : Top hview (looseW hview [Str.ofString "PaperError"]) mean mg mb h₀)
    (hE : PassesOwn (model PySem.Challenge.rw_og0136_01.row.prog w) (callerA.deeper (lawE L fa ccd)) (lawE L fa ccd) E)
    (F : Fr h₀ L s.heap m) (N : News h₀ L s.heap [(pen, W.listOf #[.ref cl, .int 0 tk, .int 0 tr] 0), (cl, W.listOf vs.toArray n), (L + 1 + 1 + 1 + 1, oS), (L + 1 + 1 + 1, oF), (L + 1 + 1, oT), (L + 1, oP)])
    (hI : IntsAre vs ns) (hl : vs.length ≤ 100) (l1 : @LT.lt Nat _ (L + 1 + 1 + 1 + 1) pen) (l2 : @LT.lt Nat _ cl pen) (l3 : @Ne Nat cl (L + 1 + 1 + 1 + 1) ∧ @Ne Nat cl (L + 1 + 1 + 1) ∧ @Ne Nat cl (L + 1 + 1) ∧ @Ne Nat cl (L + 1)) (dP : oP.data = .cell (some (.ref pen))) (dT : oT.data = .cell none) (dF : oF.data = .cell none) (dS : oS.data = .cell none)
    (fin : ∀ h tk m news, Fr h₀ L h m → News h₀ L h news → Q (.ret (.bool true)) { s with heap := h, toks := tk }),
    wpAny (model PySem.Challenge.rw_og0136_01.row.prog w) (callerA.deeper (lawE L fa ccd)) (lawT 1 L fa ccd) Q E s := by
  intro w h₀ L fa pen cl ccd mean mg mb Q E s m tk tr vs ns n oS oF oT oP B X T hE F N hI hl l1 l2 l3 dP dT dF dS fin
  exact st1 w h₀ L fa pen cl ccd mean mg mb Q E s m tk tr vs ns n oS oF oT oP B X T F N hI hl l1 l2 l3 dP dT dF dS fun _ _ I3 =>
    st2 w h₀ L fa pen ccd mean mg mb Q E _ B X T hE I3 fun _ _ I4 => st3 w h₀ L fa pen ccd mean mg mb Q E _ B X T I4 fun _ _ I5 =>
    st4 w h₀ L fa pen ccd mean mg mb Q E _ B X T I5 fun _ _ I6 => st5 w h₀ L fa pen ccd mean mg mb Q E _ B X T I6 fun _ _ I7 =>
    st6 w h₀ L fa pen ccd mean mg mb Q E _ B X T I7 fun _ _ I8 => st7 w h₀ L fa pen ccd mean mg mb Q E _ B X T I8 fun _ _ I10 =>
    st8 w h₀ L fa pen ccd mean mg mb Q E _ B X T hE I10 fun _ _ I12 => st9 w h₀ L fa pen ccd mean mg mb Q E _ B X T hE I12 fun _ _ I13 =>
    st10 w h₀ L fa pen ccd mean mg mb Q E _ B X T hE I13 fun _ _ I14 => st11 w h₀ L fa pen ccd mean mg mb Q E _ B X T I14 fun h tk m news F N => fin h tk m news F N
end Mine
end
section
theorem Mine.offTopp : True := by w_top off; trivial
namespace Mine
local macro_rules | `(tactic| k_qdec) => `(tactic| decide +kernel)
set_option maxHeartbeats 8000000 in
theorem topp : PySem.Challenge.rw_og0136_01.Holds := by
  exact hd (by
    k_go0
    all_goals (try k_fold)
    ((repeat' ( (fail_if_success (with_reducible show wpAny _ _ (execs (Stmt.Assign [PySem.Expr.Name (Str.ofString "ways") _] _ _ :: _) _) _ _ _)); (first | (k_unfold; (try dsimp only)) | (k_end; wrow_close) | walk1 | (dsimp only; walk1) | (leave1; walk_say "STEP leave1"; try dsimp only) | fail "no step"))); all_goals (try k_fold))
    (rename Fr _ _ _ _ => lF')
    (rename News _ _ _ _ => lN')
    obtain ⟨pen, e1, -⟩ := led_1 lN'
    subst e1
    obtain ⟨cl, e2, -⟩ := led_2 lN'
    subst e2
    with_unfolding_all refine' chain _ _ _ _ pen cl _ _ _ _ _ _ _ _ _ _ _ _ _ _ _ _ _ ?B ?X ?T ?E lF' (news_sub lN' ?N) ?hI ?hl ?l1 ?l2 ?l3 ?dP ?dT ?dF ?dS ?fin
    case N => walk_at "MY sub"
    case T => k_asm
    case B => k_asm
    case X => k_asm
    case E => with_unfolding_all passes_own
    case hI => assumption
    case hl =>
      (rename IntsAre _ (List.map _ (List.take 63 _)) => hi9)
      rw [hi9.length, List.length_map, List.length_take]
      omega
    case l1 => show @LT.lt Nat _ _ _; omega
    case l2 => show @LT.lt Nat _ _ _; omega
    case l3 => refine ⟨?_, ?_, ?_, ?_⟩ <;> (show @Ne Nat _ _; omega)
    case dP => first | assumption | with_unfolding_all assumption
    case dT => first | assumption | with_unfolding_all assumption
    case dF => first | assumption | with_unfolding_all assumption
    case dS => first | assumption | with_unfolding_all assumption
    case fin =>
      intro h15 tk15 m15 news15 F15 N15
      clear lF' lN'
      try k_fold
      ((repeat' ( (fail_if_success (with_reducible show wpAny _ _ (execs (Stmt.Assign [PySem.Expr.Name (Str.ofString "ways") _] _ _ :: _) _) _ _ _)); (first | (k_unfold; (try dsimp only)) | (k_end; wrow_close) | walk1 | (dsimp only; walk1) | (leave1; walk_say "STEP leave1"; try dsimp only) | fail "no step"))); all_goals (try k_fold)))
end Mine
end
end
end
end
set_option maxHeartbeats 8000000 in
theorem PySem.Challenge.cw_og0136_01_holds : PySem.Challenge.rw_og0136_01.Holds := by
  exact Mine.topp
