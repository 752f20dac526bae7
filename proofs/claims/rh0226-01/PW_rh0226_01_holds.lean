import PyProof.Rows.All
import Wide.All
import OpenK.AllK
import Wide.FinOn
import PySem.Challenge.RW_rh0226_01
open PySem PySem.W PyProof.Rows
set_option Elab.async false
set_option maxRecDepth 100000
set_option maxHeartbeats 80000000
namespace Mine
theorem fself : @PySem.Manifest.find? = @PySem.Manifest.find? := rfl
name_quick tw15363808649399731466 for PySem.Manifest.find? by Mine.fself
name_quick tw8075568018651887793 for PySem.Manifest.find? by Mine.fself
name_quick tw12122571135941518997 for PySem.Manifest.find? by Mine.fself
name_quick tw3587173488609505152 for PySem.Manifest.find? by Mine.fself
name_quick tw14979626087600564940 for PySem.Manifest.find? by Mine.fself
name_quick tw3965040857991480152 for PySem.Manifest.find? by Mine.fself
name_quick tw269472587109936629 for PySem.Manifest.find? by Mine.fself
name_quick tw8376752744543775738 for PySem.Manifest.find? by Mine.fself
name_quick tw2835016802697616593 for PySem.Manifest.find? by Mine.fself
name_quick tw11005272472160755158 for PySem.Manifest.find? by Mine.fself
name_quick tw14823778421630974403 for PySem.Manifest.find? by Mine.fself
name_quick tw12609378947248592450 for PySem.Manifest.find? by Mine.fself
name_quick tw11705733892432689576 for PySem.Manifest.find? by Mine.fself
name_quick tw1574873078441994576 for PySem.Manifest.find? by Mine.fself
name_quick tw10314498396905981064 for PySem.Manifest.find? by Mine.fself
name_quick tw9380709410254546024 for PySem.Manifest.find? by Mine.fself
name_quick tw14023627001141898710 for PySem.Manifest.find? by Mine.fself
name_quick tw11013792430000457035 for PySem.Manifest.find? by Mine.fself
name_quick tw7407407376038057661 for PySem.Manifest.find? by Mine.fself
name_quick tw14204384831589138817 for PySem.Manifest.find? by Mine.fself
name_quick tw2316978204111340717 for PySem.Manifest.find? by Mine.fself
name_quick tw2611137233208623240 for PySem.Manifest.find? by Mine.fself
name_quick tw14530364306720264245 for PySem.Manifest.find? by Mine.fself
name_quick tw7198390536060210744 for PySem.Manifest.find? by Mine.fself
name_quick tw721709456127091705 for PySem.Manifest.find? by Mine.fself
name_quick tw5189142188285759775 for PySem.Manifest.find? by Mine.fself
name_quick tw11587687937092438486 for PySem.Manifest.find? by Mine.fself
name_quick tw9594665118957945026 for PySem.Manifest.find? by Mine.fself
name_quick tw9529234661008812162 for PySem.Manifest.find? by Mine.fself
name_quick tw3560238982266916124 for PySem.Manifest.find? by Mine.fself
name_quick tw3362959441861295915 for PySem.Manifest.find? by Mine.fself
name_quick tw5882768191206486792 for PySem.Manifest.find? by Mine.fself
name_quick tw3442601649717412197 for PySem.Manifest.find? by Mine.fself
name_quick tw8595292554425487202 for PySem.Manifest.find? by Mine.fself
name_quick tw18416463498863911781 for PySem.Manifest.find? by Mine.fself
name_quick tw16817318245366136608 for PySem.Manifest.find? by Mine.fself
name_quick tw15560500314895047343 for PySem.Manifest.find? by Mine.fself
name_quick tw6817277305950994716 for PySem.Manifest.find? by Mine.fself
name_quick tw11625766737575182897 for PySem.Manifest.find? by Mine.fself
name_quick tw17057272898397164401 for PySem.Manifest.find? by Mine.fself
open_top hd for PySem.Challenge.rw_rh0226_01
open PySem.Calls PySem.Spec
theorem off_top : (1 : Nat) = 1 := by
  w_top off
  rfl
noncomputable abbrev Led := List (Addr × Obj)
/-- the goal behind a letter, while the facts are taken apart (a case split copies the goal) -/
theorem hideG {G : Prop} (h : ∀ P : Prop, (G → P) → P) : G := h G id
/-- the count of tokens behind a letter (a long count is written anew at each depth) -/
theorem genTok {M : Model} {A : Around} {α : Type} {t : Sem α} {Q : α → Shared → Prop} {E : Value → Shared → Prop} {s : Shared} {h : Heap} {T : Nat} (k : ∀ tk : Nat, wpAny M A t Q E { s with heap := h, toks := tk }) : wpAny M A t Q E { s with heap := h, toks := T + 1 } := k _
theorem newsSub {h₀ h : Heap} {L : Addr} {a b : Led} (N : News h₀ L h a) (hs : ∀ p ∈ b, p ∈ a) : News h₀ L h b := fun p hp => N p (hs p hp)
/-- what a body's end says: the frame's ledger, and the answer -/
noncomputable def FootEnd (g : Heap) (s₀ : Shared) (P : Value → Led → Prop) (v : Value) (s' : Shared) : Prop :=
  ∃ L' m' foot' h' tk', s' = { s₀ with heap := h', toks := tk' } ∧ Fr g L' h' m' ∧ News g L' h' foot' ∧ P v foot'
theorem FootEnd.intro {g h' : Heap} {s₀ : Shared} {P : Value → Led → Prop} {v : Value} {tk' : Nat} {L' : Addr} {m' : Str → Option Value} {foot' : Led}
    (F : Fr g L' h' m') (N : News g L' h' foot') (p : P v foot') : FootEnd g s₀ P v { s₀ with heap := h', toks := tk' } := ⟨_, _, _, _, _, rfl, F, N, p⟩
/-- every address of foot' is one of foot's or was not there -/
noncomputable def Fresh (h : Heap) (foot foot' : Led) : Prop := ∀ p ∈ foot', (∃ q ∈ foot, q.1 = p.1) ∨ h.get? p.1 = none
noncomputable def Apart (foot rest : Led) : Prop := ∀ p ∈ foot, ∀ q ∈ rest, p.1 ≠ q.1
theorem Fresh.apart {h h₀ : Heap} {L : Addr} {foot foot' rest : Led} (x : Fresh h foot foot') (N : News h₀ L h rest) (a : Apart foot rest) : Apart foot' rest := by
  intro p hp q hq e
  rcases x p hp with ⟨r, hr, er⟩ | hn
  · exact a r hr q hq (er.trans e)
  · have := (N q hq).1; rw [← e, hn] at this; cases this
section
variable {w : World} {A₀ A : Around} {s : Shared} {base h₀ : Heap} {outer : List Env} {L : Addr} {m : Str → Option Value} {env : Env} {K : Frag} {p : Program} {loose : List Str} {mean : ExcName → Option Value} {mg mb : Str → Option Value}
  {R : Result → Shared → Prop} {name qual : Str} {params : Arguments} {body : List Stmt} {scope : Scope} {dV kV doc pm cdv ct oc : Value} {an od : Option Addr} {osl : Array (Option Value)} {f : Addr} {args : Args} {binds : List (Str × Value)}
theorem foot_code {foot rest : Led} (P : Value → Led → Prop)
    (B : Below A₀ base outer h₀) (F : Fr h₀ L s.heap m) (X₀ : K.In h₀) (N : News h₀ L s.heap (foot ++ rest)) (T : Top p loose mean mg mb h₀) (hA : A.frames = some (env :: outer)) (hf : env.frame = some L) (hke : env.scope.kind = .function)
    (hap : Apart foot rest)
    (ho : K.lookup f = some ⟨oc, od, .func (fnOf name qual params body scope dV kV doc pm an cdv ct), osl⟩) (hcd : codeIn K cdv qual = true) (hroom : A.depth < recursionLimit)
    (hbind : BindsTo s (fnOf name qual params body scope dV kV doc pm an cdv ct) args binds) (hloc : ∀ y ∈ binds, scope.names.lookup y.1 = some .local)
    (h : ∀ g L' h₁, Fr g L' h₁ (fun y => binds.reverse.lookup y) → News g L' h₁ foot → Below A base (env :: outer) g → K.In g → Top p loose mean mg mb g → 
      wpAny (model PySem.Challenge.rw_rh0226_01.prog w) (A.deeper (envOf qual scope L' f cdv)) (execs body (envOf qual scope L' f cdv))
        (fun fl s' => FootEnd g s P (match fl with | .ret v => v | _ => .none) s')
        (fun e s' => wpAny (model PySem.Challenge.rw_rh0226_01.prog w) (A.deeper (envOf qual scope L' f cdv)) (leaving (envOf qual scope L' f cdv) e) (fun _ s'' => R (.error e) s'') (fun e' s'' => R (.error e') s'') s')
        { s with heap := h₁, toks := s.toks + binds.length })
    (ret : ∀ r foot' h' tk', P r foot' → Fr h₀ L h' m → News h₀ L h' (foot' ++ rest) → Apart foot' rest → Fresh s.heap foot foot' → R (.ok (.ret r)) { s with heap := h', toks := tk' })
    (hco : scope.isCoroutine = false) (hgen : scope.isGenerator = false) (hk : scope.kind = .function)
    (hcell : ∀ x ∈ scope.names, x.2 ≠ .cell) : codeAny (model PySem.Challenge.rw_rh0226_01.prog w) A (.call (.ref f) args) R s := by
  have Nf : News h₀ L s.heap foot := newsSub N fun p hp => List.mem_append_left _ hp
  have Nr : News h₀ L s.heap rest := newsSub N fun p hp => List.mem_append_right _ hp
  obtain ⟨FG, BG, st, -⟩ := groundX (R := R) B F Nf hA hf hke
  have X := X₀.keeps F.keep
  refine codeAny_call_def (fd := fnOf name qual params body scope dV kV doc pm an cdv ct) (body := body) (binds := binds) hroom (X _ _ ho) rfl (T.nolimit.keeps F.keep) (codeRec_of X hcd) rfl hbind hcell hloc (fun h₁ hns hk₁ => ?_) hco hgen hk
  refine wpAny_mono (h (hideAll s.heap (foot.map (·.1))) s.heap.objs.size h₁ ⟨hns, fun b o e => hk₁ b o (of_hideAll _ e), Nat.le_of_eq (hideAll_size _ _)⟩
    (fun p hp => ⟨hk₁ _ _ (Nf p hp).1, Nat.ne_of_lt (Heap.lt_size (Nf p hp).1), hideAll_none _ (List.mem_map_of_mem hp)⟩) BG (X₀.keeps (fun b o e => st b o e)) (T.keeps (fun b o e => st b o e))) (fun fl s' hl => ?_) fun _ _ y => y
  obtain ⟨L', m', foot', h', tk', rfl, F', N', hP⟩ := hl
  obtain ⟨oL, es, ep, hL, hLd, hLk, hLf⟩ := FG.ns
  have hrest : ∀ q ∈ rest, h'.get? q.1 = some q.2 := fun q hq => F'.keep _ _ (hideAll_get _ (Nr q hq).1 fun hm => by
    obtain ⟨p, hp, e⟩ := List.mem_map.mp hm
    exact hap p hp q hq e)
  have hfr : Fresh s.heap foot foot' := fun p hp => by
    by_cases hm : p.1 ∈ foot.map (·.1)
    · obtain ⟨q, hq, e⟩ := List.mem_map.mp hm
      exact .inl ⟨q, hq, e⟩
    · right
      cases q : s.heap.get? p.1 with
      | none => rfl
      | some o => have := (N' p hp).2.2; rw [hideAll_get _ q hm] at this; cases this
  refine ret _ foot' h' tk' hP ⟨⟨oL, es, ep, F'.keep L oL hL, hLd, hLk, hLf⟩, fun b o e => F'.keep b o (st b o e), F.above⟩ (fun p hp => ?_) (hfr.apart Nr hap) hfr
  rcases List.mem_append.mp hp with hp | hp
  · refine ⟨(N' p hp).1, fun q => ?_, ?_⟩
    · have := (N' p hp).2.2; rw [q, hL] at this; cases this
    · cases q : h₀.get? p.1 with
      | none => rfl
      | some o => have := (N' p hp).2.2; rw [st _ _ q] at this; cases this
  · exact ⟨hrest p hp, (Nr p hp).2⟩
end
/-- a contract of a def of the text, called at depth dp with un units: it touches what lies in foot alone -/
noncomputable def Spec (w : World) (dp un : Nat) (f : Addr) (vs : List Value) (foot : Led) (P : Value → Led → Prop) : Prop :=
  ∀ (cn : Str) (cs : Scope) (a : Addr) (ccd : Value) (cl : List (Str × Addr)) (outer : List Env) (A₀ : Around) (base h₀ : Heap) (L : Addr) (m : Str → Option Value) (s : Shared) (Q E : Value → Shared → Prop)
    (p : Program) (loose : List Str) (mean : ExcName → Option Value) (mg mb : Str → Option Value) (rest : Led),
    Below A₀ base outer h₀ → Fr h₀ L s.heap m → (hd.heap_39 w.params).In h₀ → News h₀ L s.heap (foot ++ rest) → Top p loose mean mg mb h₀ → cs.kind = .function → Apart foot rest →
    (∀ r foot' h' tk', P r foot' → Fr h₀ L h' m → News h₀ L h' (foot' ++ rest) → Apart foot' rest → Fresh s.heap foot foot' → Q r { s with heap := h', toks := tk' }) →
    wpAny (model PySem.Challenge.rw_rh0226_01.prog w) (ktrTop dp un (some []) cn cs L a ccd cl outer) (call (.ref f) vs) Q E s
section
variable {w : World} {dp un : Nat} {f : Addr} {vs : List Value} {foot : Led} {P : Value → Led → Prop} {cn : Str} {cs : Scope} {a : Addr} {ccd : Value} {cl : List (Str × Addr)} {outer : List Env} {A₀ : Around} {base h₀ : Heap} {L : Addr} {m : Str → Option Value} {s : Shared} {Q E : Value → Shared → Prop}
    {p : Program} {loose : List Str} {mean : ExcName → Option Value} {mg mb : Str → Option Value} {rest news : Led}
theorem Spec.use (C : Spec w dp un f vs foot P) (rest : Led) (B : Below A₀ base outer h₀) (F : Fr h₀ L s.heap m) (X : (hd.heap_39 w.params).In h₀) (N : News h₀ L s.heap news) (T : Top p loose mean mg mb h₀) (hk : cs.kind = .function)
    (hs : ∀ p ∈ foot ++ rest, p ∈ news) (hap : Apart foot rest)
    (hret : ∀ r foot' h' tk', P r foot' → Fr h₀ L h' m → News h₀ L h' (foot' ++ rest) → Apart foot' rest → Fresh s.heap foot foot' → Q r { s with heap := h', toks := tk' }) :
    wpAny (model PySem.Challenge.rw_rh0226_01.prog w) (ktrTop dp un (some []) cn cs L a ccd cl outer) (call (.ref f) vs) Q E s :=
  C _ _ _ _ _ _ _ _ _ _ _ _ _ _ _ _ _ _ _ _ B F X (newsSub N hs) T hk hap hret
theorem Spec.use0 (C : Spec w dp un f vs [] P) (B : Below A₀ base outer h₀) (F : Fr h₀ L s.heap m) (X : (hd.heap_39 w.params).In h₀) (N : News h₀ L s.heap news) (T : Top p loose mean mg mb h₀) (hk : cs.kind = .function)
    (hret : ∀ r foot' h' tk', P r foot' → Fr h₀ L h' m → News h₀ L h' (foot' ++ news) → Apart foot' news → Q r { s with heap := h', toks := tk' }) :
    wpAny (model PySem.Challenge.rw_rh0226_01.prog w) (ktrTop dp un (some []) cn cs L a ccd cl outer) (call (.ref f) vs) Q E s :=
  C _ _ _ _ _ _ _ _ _ _ _ _ _ _ _ _ _ _ _ _ B F X N T hk (fun _ h => nomatch h) fun r ft h' tk' hP F' N' ha _ => hret r ft h' tk' hP F' N' ha
end
/-- two addresses differ (hidden from omega) -/
noncomputable def NE (a b : Nat) : Prop := a ≠ b
theorem NE.l {a b : Nat} (h : NE a b) : a ≠ b := h
theorem NE.r {a b : Nat} (h : NE b a) : a ≠ b := fun e => h e.symm
theorem NE.lt {a b : Nat} (h : @LT.lt Nat _ a b) : NE a b := Nat.ne_of_lt h
theorem NE.gt {a b : Nat} (h : @LT.lt Nat _ b a) : NE a b := Nat.ne_of_gt h
theorem NE.symm {a b : Nat} (h : NE b a) : NE a b := fun e => h e.symm
noncomputable def NeAll (a : Nat) : Led → Prop
  | [] => True
  | p :: r => NE a p.1 ∧ NeAll a r
noncomputable def ApartL : Led → Led → Prop
  | [], _ => True
  | p :: r, l => NeAll p.1 l ∧ ApartL r l
theorem neAll_of {a : Nat} : ∀ {l : Led}, (∀ q ∈ l, a ≠ q.1) → NeAll a l
  | [], _ => trivial
  | _ :: _, h => ⟨h _ (.head _), neAll_of fun q hq => h q (.tail _ hq)⟩
theorem NeAll.mem {a : Nat} : ∀ {l : Led}, NeAll a l → ∀ q ∈ l, q.1 ≠ a
  | [], _, _, h => nomatch h
  | _ :: _, x, q, h => by
    rcases List.mem_cons.mp h with rfl | h
    · exact fun e => x.1 e.symm
    · exact NeAll.mem x.2 q h
theorem apartL_of : ∀ {a b : Led}, Apart a b → ApartL a b
  | [], _, _ => trivial
  | p :: r, b, h => ⟨neAll_of fun q hq => h p (.head _) q hq, apartL_of fun p' hp' => h p' (.tail _ hp')⟩
theorem apart_of : ∀ {a b : Led}, ApartL a b → Apart a b
  | [], _, _, _, h => nomatch h
  | p :: r, b, x, p', h => by
    intro q hq
    rcases List.mem_cons.mp h with rfl | h
    · exact fun e => x.1.mem q hq e.symm
    · exact apart_of x.2 p' h q hq
/-- a text's key: its hash and its value -/
noncomputable abbrev en (w : World) (k : String) (t : Tok) (v : Value) : DictEntry := ⟨PyData.keyHash w.params (Str.ofString k), .str (Str.ofString k) t, v⟩
noncomputable abbrev wEs (w : World) (ks : Nat → Tok) (V : Nat → Value) (store aside holders : Addr) (made : Int) (tm : Tok) : List DictEntry :=
  [en w "width" (ks 0) (.int 32 (ks 26)), en w "most_steps" (ks 1) (V 1), en w "most_depth" (ks 2) (V 2), en w "most_length" (ks 3) (V 3), en w "most_items" (ks 4) (.int 20000 (ks 27)), en w "store" (ks 5) (.ref store),
   en w "functions" (ks 6) (V 6), en w "labels" (ks 7) (V 7), en w "keywords" (ks 8) (V 8), en w "opsyns" (ks 9) (V 9), en w "inputs" (ks 10) (V 10), en w "outputs" (ks 11) (V 11), en w "traces" (ks 12) (V 12),
   en w "read_names" (ks 13) (V 13), en w "write_names" (ks 14) (V 14), en w "traced" (ks 15) (V 15), en w "steps" (ks 16) (V 16), en w "depth" (ks 17) (V 17), en w "nested" (ks 18) (V 18), en w "aside" (ks 19) (.ref aside),
   en w "made" (ks 20) (.int made tm), en w "holders" (ks 21) (.ref holders), en w "evaluate" (ks 22) (V 22), en w "make_code" (ks 23) (V 23), en w "matcher" (ks 24) (V 24), en w "kept_names" (ks 25) (V 25)]
/-- an array that the call made: the thing, its dict, its list of items -/
structure Arr where
  a : Addr
  d : Addr
  i : Addr
  num : Int
  k0 : Tok
  k1 : Tok
  k2 : Tok
  k3 : Tok
  k4 : Tok
  k5 : Tok
  k6 : Tok
  k7 : Tok
  tx : Tok
  told : Value
  bnd : Value
noncomputable abbrev arrEs (w : World) (x : Arr) (mk : Int) (tmk : Tok) : List DictEntry :=
  [en w "word" x.k0 (.str (Str.ofString "ARRAY") x.k6), en w "number" x.k1 (.int x.num x.k7), en w "mark" x.k2 (.int mk tmk), en w "told" x.k3 x.told, en w "bounds" x.k4 x.bnd, en w "items" x.k5 (.ref x.i)]
noncomputable abbrev arrLed (w : World) (x : Arr) (mk : Int) (tmk : Tok) (v0 : Value) : Led := [(x.a, instObj 152 x.d), (x.d, dictOf (arrEs w x mk tmk) 6), (x.i, listOf #[v0, .str (Str.ofString "x") x.tx] 0)]
noncomputable abbrev SD (w : World) (o : Obj) (kvs : List (Str × Value)) : Prop := o.IsDictOf (PySem.strKind PySem.Challenge.rw_rh0226_01.prog w) kvs
noncomputable abbrev kvK (things inner held vars : Addr) : List (Str × Value) := [(Str.ofString "things", .ref things), (Str.ofString "inner", .ref inner), (Str.ofString "held", .ref held), (Str.ofString "vars", .ref vars)]
/-- a mark at which the walk stops -/
noncomputable def Stop (P : Prop) : Prop := P
theorem stop_ {P : Prop} (h : Stop P) : P := h
noncomputable def NeL (a : Nat) : List Nat → Prop
  | [] => True
  | b :: r => NE a b ∧ NeL a r
noncomputable def PairN : List Nat → Prop
  | [] => True
  | a :: r => NeL a r ∧ PairN r
section
variable {prog : Program} {w : World} {A : Around} {E : Value → Shared → Prop} {s : Shared} {h₀ : Heap} {L : Addr} {m : Str → Option Value} {news news' : Led} {D : Addr} {its : Array Value} {c : Nat} {k : Int} {u : Tok} {x : Value} {Q : Value → Shared → Prop} {value slice : PySem.Expr}
theorem len_L (N : News h₀ L s.heap news) (hm : (D, listOf its c) ∈ news) (hf : its.size < 2 ^ 62) (h : Q (.int (its.size : Nat) (s.toks + 1)) { s with toks := s.toks + 1 + 1 }) :
    wpAny (model prog w) A (call (.builtin "len") [.ref D]) Q E s := KM.len_K N hm rfl hf h
theorem item_L (N : News h₀ L s.heap news) (hm : (D, listOf its c) ∈ news) (h0 : 0 ≤ k) (hfit : k < 2 ^ 63) (hx : its[k.toNat]? = some x) (h : Q x s)
    (hs : subscripted slice false (.ref D) (.int k u) = operate [.ref D, .int k u] (getItem (.ref D) (.int k u)) := by with_unfolding_all rfl) (hg : ∀ r, letTemporaryGo value (.ref D) r = pure () := by intro _; with_unfolding_all rfl) :
    wpAny (model prog w) A (subscriptTail value slice (.ref D) (.int k u)) Q E s :=
  item_listL (l := its.toList) ⟨_, (N _ hm).1, rfl, c, rfl⟩ h0 hfit (by simpa using hx) h hs hg
theorem last_L {l : List Value} (N : News h₀ L s.heap news) (hm : (D, listOf (l ++ [x]).toArray c) ∈ news) (h : Q x s)
    (hs : subscripted slice false (.ref D) (.int (-1) u) = operate [.ref D, .int (-1) u] (getItem (.ref D) (.int (-1) u)) := by with_unfolding_all rfl) (hg : ∀ r, letTemporaryGo value (.ref D) r = pure () := by intro _; with_unfolding_all rfl) :
    wpAny (model prog w) A (subscriptTail value slice (.ref D) (.int (-1) u)) Q E s := by
  have hl : s.heap.IsList D (l ++ [x]).toArray := ⟨_, (N _ hm).1, rfl, c, rfl⟩
  refine subscriptTail_builtin hl.typeIs slot_list_getitem.lookup (wpAny_getItem_list_neg hl (by decide) (by rw [List.size_toArray, List.length_append]; simp; omega) (by decide) ?_ h) hs hg
  have e : ((-1 : Int) + ((l ++ [x]).toArray.size : Nat)).toNat = l.length := by rw [List.size_toArray, List.length_append]; simp; omega
  rw [e]
  simp
end
section
variable {w : World} {A₀ A : Around} {s : Shared} {base h₀ : Heap} {outer : List Env} {L : Addr} {m : Str → Option Value} {env : Env} {K : Frag} {p : Program} {loose : List Str} {mean : ExcName → Option Value} {mg mb : Str → Option Value}
  {R : Result → Shared → Prop} {name qual : Str} {params : Arguments} {body : List Stmt} {scope : Scope} {dV kV doc pm cdv ct oc : Value} {an od : Option Addr} {osl : Array (Option Value)} {f : Addr} {args : Args} {binds : List (Str × Value)}
theorem foot_codeC {foot rest : Led} (P : Value → Led → Prop)
    (B : Below A₀ base outer h₀) (F : Fr h₀ L s.heap m) (X₀ : K.In h₀) (N : News h₀ L s.heap (foot ++ rest)) (T : Top p loose mean mg mb h₀) (hA : A.frames = some (env :: outer)) (hf : env.frame = some L) (hke : env.scope.kind = .function)
    (hap : Apart foot rest)
    (ho : K.lookup f = some ⟨oc, od, .func (fnOf name qual params body scope dV kV doc pm an cdv ct), osl⟩) (hcd : codeIn K cdv qual = true) (hroom : A.depth < recursionLimit)
    (hbind : BindsTo s (fnOf name qual params body scope dV kV doc pm an cdv ct) args binds) (hkind : (binds.all fun y => scope.names.lookup y.1 == some .local || scope.names.lookup y.1 == some .cell) = true)
    (hnd : ((cellsFrom 0 scope.names []).map (·.1)).Nodup)
    (h : ∀ g L' h₁ tk cells, Fr g L' h₁ (bindL (envOfC qual scope L' f cdv).kindOf binds fun _ => none) → News g L' h₁ (cells ++ foot) →
      CellsAre (bindC (envOfC qual scope L' f cdv).kindOf binds fun _ => none) (cellsFrom (L' + 1) scope.names []) cells → Below A base (env :: outer) g → K.In g → Top p loose mean mg mb g → (∀ p ∈ foot, p.1 < L') →
      wpAny (model PySem.Challenge.rw_rh0226_01.prog w) (A.deeper (envOfC qual scope L' f cdv)) (execs body (envOfC qual scope L' f cdv))
        (fun fl s' => FootEnd g s P (match fl with | .ret v => v | _ => .none) s')
        (fun e s' => wpAny (model PySem.Challenge.rw_rh0226_01.prog w) (A.deeper (envOfC qual scope L' f cdv)) (leaving (envOfC qual scope L' f cdv) e) (fun _ s'' => R (.error e) s'') (fun e' s'' => R (.error e') s'') s')
        { s with heap := h₁, toks := tk })
    (ret : ∀ r foot' h' tk', P r foot' → Fr h₀ L h' m → News h₀ L h' (foot' ++ rest) → Apart foot' rest → Fresh s.heap foot foot' → R (.ok (.ret r)) { s with heap := h', toks := tk' })
    (hco : scope.isCoroutine = false) (hgen : scope.isGenerator = false) (hk : scope.kind = .function) : codeAny (model PySem.Challenge.rw_rh0226_01.prog w) A (.call (.ref f) args) R s := by
  have Nf : News h₀ L s.heap foot := newsSub N fun p hp => List.mem_append_left _ hp
  have Nr : News h₀ L s.heap rest := newsSub N fun p hp => List.mem_append_right _ hp
  obtain ⟨FG, BG, st, -⟩ := groundX (R := R) B F Nf hA hf hke
  have X := X₀.keeps F.keep
  refine codeAny_call_function hroom (X _ _ ho) rfl hco hgen rfl (codeRec_of X hcd) (hbind _ _ _ _ ?_)
  refine wpAny_newFunctionEnv_cells hk (kindsX hkind _) fun env' he s' x => ?_
  subst he
  refine ⟨(T.nolimit.keeps F.keep).keeps x.toInCall.keep, codeAny_func ?_⟩
  obtain ⟨h₁, tk, rfl, _⟩ := x.done
  have hk₁ := x.toInCall.keep
  obtain ⟨cells, NC, Y⟩ := Cl.news (h₀ := s.heap) (Nat.le_refl _) fun n c hm => ⟨x.cell n c (lookup_of_mem_nodup (cellsFrom_names scope.names 0 (s.heap.objs.size + 1) [] [] rfl ▸ hnd) hm), x.above n c hm⟩
  refine wpAny_mono (h (hideAll s.heap (foot.map (·.1))) s.heap.objs.size h₁ tk cells ⟨x.toInCall.ns, fun b o e => hk₁ b o (of_hideAll _ e), Nat.le_of_eq (hideAll_size _ _)⟩ (fun p hp => ?_) Y BG (X₀.keeps (fun b o e => st b o e)) (T.keeps (fun b o e => st b o e)) (fun p hp => Heap.lt_size (Nf p hp).1)) (fun fl s' hl => ?_) fun _ _ y => y
  · rcases List.mem_append.mp hp with hp | hp
    · refine ⟨(NC p hp).1, (NC p hp).2.1, ?_⟩
      cases q : (hideAll s.heap (foot.map (·.1))).get? p.1 with
      | none => rfl
      | some o => have := of_hideAll _ q; rw [(NC p hp).2.2] at this; cases this
    · exact ⟨hk₁ _ _ (Nf p hp).1, Nat.ne_of_lt (Heap.lt_size (Nf p hp).1), hideAll_none _ (List.mem_map_of_mem hp)⟩
  obtain ⟨L', m', foot', h', tk', rfl, F', N', hP⟩ := hl
  obtain ⟨oL, es, ep, hL, hLd, hLk, hLf⟩ := FG.ns
  have hrest : ∀ q ∈ rest, h'.get? q.1 = some q.2 := fun q hq => F'.keep _ _ (hideAll_get _ (Nr q hq).1 fun hm => by
    obtain ⟨p, hp, e⟩ := List.mem_map.mp hm
    exact hap p hp q hq e)
  have hfr : Fresh s.heap foot foot' := fun p hp => by
    by_cases hm : p.1 ∈ foot.map (·.1)
    · obtain ⟨q, hq, e⟩ := List.mem_map.mp hm
      exact .inl ⟨q, hq, e⟩
    · right
      cases q : s.heap.get? p.1 with
      | none => rfl
      | some o => have := (N' p hp).2.2; rw [hideAll_get _ q hm] at this; cases this
  refine ret _ foot' h' tk' hP ⟨⟨oL, es, ep, F'.keep L oL hL, hLd, hLk, hLf⟩, fun b o e => F'.keep b o (st b o e), F.above⟩ (fun p hp => ?_) (hfr.apart Nr hap) hfr
  rcases List.mem_append.mp hp with hp | hp
  · refine ⟨(N' p hp).1, fun q => ?_, ?_⟩
    · have := (N' p hp).2.2; rw [q, hL] at this; cases this
    · cases q : h₀.get? p.1 with
      | none => rfl
      | some o => have := (N' p hp).2.2; rw [st _ _ q] at this; cases this
  · exact ⟨hrest p hp, (Nr p hp).2⟩
end
local macro_rules | `(tactic| walk_at $s:str) => `(tactic| k_extra $s)
local macro_rules | `(tactic| k_ne) => `(tactic| (refine neN ?_; (try dsimp only); first | exact NE.l (by with_reducible assumption) | exact NE.r (by with_reducible assumption)))
local macro_rules | `(tactic| k_all) => `(tactic| first | exact NeAll.mem (by with_reducible assumption) | exact fun p hp => Nat.ne_of_lt (ktn_ltOf (by with_reducible assumption) p hp))
section
variable {w : World} {A₀ : Around} {s : Shared} {base h₀ : Heap} {outer : List Env} {L a : Addr} {cn : Str} {cs : Scope} {ccd : Value} {cl : List (Str × Addr)} {dp un dp' un' : Nat} {m : Str → Option Value} {K : Frag} {p : Program} {loose : List Str} {mean : ExcName → Option Value} {mg mb : Str → Option Value}
  {R : Result → Shared → Prop} {name qual : Str} {params : Arguments} {body : List Stmt} {scope : Scope} {dV kV doc pm cdv ct oc : Value} {an od : Option Addr} {osl : Array (Option Value)} {f : Addr} {args : Args} {binds : List (Str × Value)}
/-- as foot_code, with letters for what the callee's walk need not see -/
theorem foot_code2 {foot rest : Led} (P : Value → Led → Prop)
    (B : Below A₀ base outer h₀) (F : Fr h₀ L s.heap m) (X₀ : K.In h₀) (N : News h₀ L s.heap (foot ++ rest)) (T : Top p loose mean mg mb h₀) (hke : cs.kind = .function)
    (hap : Apart foot rest)
    (ho : K.lookup f = some ⟨oc, od, .func (fnOf name qual params body scope dV kV doc pm an cdv ct), osl⟩) (hcd : codeIn K cdv qual = true) (hroom : dp < recursionLimit)
    (hbind : BindsTo s (fnOf name qual params body scope dV kV doc pm an cdv ct) args binds) (hloc : ∀ y ∈ binds, scope.names.lookup y.1 = some .local)
    (hdp : dp' = dp + 1) (hun : un' = un + 3)
    (h : ∀ (g : Heap) (L' : Addr) (s₁ : Shared) (A₁ : Around) (base' : Heap) (outer' : List Env) (E' : Value → Shared → Prop) (Q' : Flow → Shared → Prop),
      Fr g L' s₁.heap (fun y => binds.reverse.lookup y) → News g L' s₁.heap foot → Below A₁ base' outer' g → K.In g → Top p loose mean mg mb g →
      PassesOwn (model PySem.Challenge.rw_rh0226_01.prog w) (ktrTop dp' un' (some []) qual scope L' f cdv [] outer') (envOf qual scope L' f cdv) E' →
      (∀ fl s', FootEnd g s₁ P (match fl with | .ret v => v | _ => .none) s' → Q' fl s') →
      wpAny (model PySem.Challenge.rw_rh0226_01.prog w) (ktrTop dp' un' (some []) qual scope L' f cdv [] outer') (execs body (envOf qual scope L' f cdv)) Q' E' s₁)
    (ret : ∀ r foot' h' tk', P r foot' → Fr h₀ L h' m → News h₀ L h' (foot' ++ rest) → Apart foot' rest → Fresh s.heap foot foot' → R (.ok (.ret r)) { s with heap := h', toks := tk' })
    (hco : scope.isCoroutine = false) (hgen : scope.isGenerator = false) (hk : scope.kind = .function)
    (hcell : ∀ x ∈ scope.names, x.2 ≠ .cell) : codeAny (model PySem.Challenge.rw_rh0226_01.prog w) (ktrTop dp un (some []) cn cs L a ccd cl outer) (.call (.ref f) args) R s := by
  subst hdp hun
  refine foot_code P B F X₀ N T rfl rfl hke hap ho hcd hroom hbind hloc (fun g L' h₁ F' N' B' X' T' => ?_) ret hco hgen hk hcell
  refine h g L' { s with heap := h₁, toks := s.toks + binds.length } _ _ _ _ _ F' N' B' X' T' ?_ (fun fl s' x => x)
  passes_own
end
theorem next_C (w : World) {feed cells : Addr} {ns : List Int} {vs : List Value} {t : Int} {tk tk2 : Tok} {n1 n2 : Nat} {many : Int}
  (hne : @Ne Nat feed cells) (hI : IntsAre vs ns) (hl : ns.length ≤ 30) (ht : 0 ≤ t) (ht2 : t ≤ 30) (hm : 1 ≤ many) (hm2 : many ≤ 10) :
  Spec w 302 7 304 [.ref feed, .int many tk2] [(feed, listOf #[.ref cells, .int t tk] n1), (cells, listOf vs.toArray n2)] (fun r ft => 
    ∃ k tr tk1, r = .int k tr ∧ 0 ≤ k ∧ k < many ∧ ft = [(feed, listOf #[.ref cells, .int (t+1) tk1] n1), (cells, listOf vs.toArray n2)]) := by
  intro cn cs a ccd cl outer A₀ base h₀ L m s Q E p loose mean mg mb rest B F X N T hk hap hret
  revert X; k_fill; intro X
  refine wpAny_call ?_
  k_dflt (refine' foot_code2 (dp' := 303) (un' := 10) _ B F X N T ?kK hap ?k6 ?k7 ?k8 ?k9 ?kB rfl rfl ?_ hret ?c2 ?c3 ?c4 ?c5; (case kK => exact hk); (case k6 => k_is); (case k7 => k_is); (case k8 => k_room); (case k9 => exact BindsTo.of_eq rfl); (case c5 => decide); (case kB => exact locs rfl); (case c2 => exact rfl); (case c3 => exact rfl); (case c4 => exact rfl))
  clear hret N F X T B hap
  intro g' L' s₁ A₁ base' outer' E' Q' F' N' B' X' T' hE' hQ'
  k_steps
  all_goals (refine hQ' _ _ ?_)
  all_goals (refine FootEnd.intro (by assumption) (by assumption) ⟨_, _, _, rfl, ?_, ?_, rfl⟩)
  all_goals (first | exact Int.fmod_nonneg_of_pos _ (by omega) | exact Int.fmod_lt_of_pos _ (by omega))
theorem whole_C (w : World) {t1 t2 : Tok}   :
  Spec w 307 22 114 [.str { cps := #[50] } t1, .int 32 t2] [] (fun r ft => ∃ t, r = .int 2 t ∧ ft = []) := by
  k_with_none
  k_with "execs cons" => (k_here; dsimp only; refine genTok ?_; intro tkG)
  k_with "exec For Name Name cons nil" => (k_here; (with_reducible show wpAny _ _ (exec (Stmt.For _ _ _ [] _) _) _ _ _); k_strName; (rename Fr _ _ _ _ => lF'k); (with_unfolding_all refine' For_invVF lF'k ?zk1 ?zk2 ?_; (case zk1 => exact rfl); (case zk2 => exact rfl); k_whole))
  k_with "pyIter str" => ((with_reducible show wpAny _ _ (pyIter (Value.str _ _)) (fun it s₂ => LoopAtV _ _ _ _ _ _ _ _ _ it s₂) _ _); k_here; k_strUnr)
  intro cn cs a ccd cl outer A₀ base h₀ L m s Q E p loose mean mg mb rest B F X N T hk hap hret
  revert X; k_fill; intro X
  refine wpAny_call ?_
  k_dflt (refine' foot_code2 (dp' := 308) (un' := 25) _ B F X N T ?kK hap ?k6 ?k7 ?k8 ?k9 ?kB rfl rfl ?_ hret ?c2 ?c3 ?c4 ?c5; (case kK => exact hk); (case k6 => k_is); (case k7 => k_is); (case k8 => k_room); (case k9 => exact BindsTo.of_eq rfl); (case c5 => decide); (case kB => exact locs rfl); (case c2 => exact rfl); (case c3 => exact rfl); (case c4 => exact rfl))
  clear hret N F X T B hap
  intro g' L' s₁ A₁ base' outer' E' Q' F' N' B' X' T' hE' hQ'
  k_steps
  · have e : (10 * 0 + (((Str.ofString "2").cps.getD 0 0 : Nat) : Int) - 48) = 2 := by decide +kernel
    rw [e]
    refine hQ' _ _ ?_
    exact FootEnd.intro (by assumption) (by assumption) ⟨_, rfl, rfl⟩
  · exfalso
    rename (Builtin.Str.occurrences _ _ _ _ _).isEmpty = false => hx
    revert hx
    decide +kernel
theorem bounds_C (w : World) {t1 t2 : Tok}   :
  Spec w 305 16 206 [.str (Str.ofString "2") t1, .int 32 t2] [] (fun r ft => ∃ bl tp c c2 t3 t4, @LT.lt Nat _ bl tp ∧ r = .ref bl ∧ ft = [(tp, { cls := .type "tuple", data := .seq #[.int 1 t3, .int 2 t4] c2 }), (bl, listOf #[.ref tp] c)]) := by
  k_with_none
  k_with "execs cons" => (k_here; dsimp only; refine genTok ?_; intro tkG)
  k_with "call ref" => (k_here; (with_reducible show wpAny _ _ (call (Value.ref 114) _) _ _ _); k_dflt (refine' Spec.use0 (whole_C _) ?zk1 ?zk2 ?zk3 ?zk4 ?zk5 ?zkK ?_; (case zk1 => k_asm); (case zk2 => k_asm); (case zk3 => k_asm); (case zk4 => k_asm); (case zk5 => k_asm); (case zkK => first | exact rfl | assumption)); intro r9k ft9k h'k tk'k hPk F'k N'k hap'k; (obtain ⟨t9k, e9k, e10k⟩ := hPk); subst e9k; subst e10k; (try dsimp only [List.nil_append] at N'k); clear hap'k; (try k_fold))
  intro cn cs a ccd cl outer A₀ base h₀ L m s Q E p loose mean mg mb rest B F X N T hk hap hret
  revert X; k_fill; intro X
  refine wpAny_call ?_
  k_dflt (refine' foot_code2 (dp' := 306) (un' := 19) _ B F X N T ?kK hap ?k6 ?k7 ?k8 ?k9 ?kB rfl rfl ?_ hret ?c2 ?c3 ?c4 ?c5; (case kK => exact hk); (case k6 => k_is); (case k7 => k_is); (case k8 => k_room); (case k9 => exact BindsTo.of_eq rfl); (case c5 => decide); (case kB => exact locs rfl); (case c2 => exact rfl); (case c3 => exact rfl); (case c4 => exact rfl))
  clear hret N F X T B hap
  intro g' L' s₁ A₁ base' outer' E' Q' F' N' B' X' T' hE' hQ'
  k_steps
  refine hQ' _ _ ?_
  refine' FootEnd.intro (foot' := [(_, _), (_, _)]) (by assumption) (newsSub (by assumption) (SubL.mem ?h1)) ⟨_, _, _, _, _, _, ?h2, rfl, rfl⟩
  case h1 => k_subL
  case h2 => first | assumption | omega
theorem put_made {w : World} {ks : Nat → Tok} {V : Nat → Value} {store aside H : Addr} {made k : Int} {tm tm' t : Tok} :
    (putL (Str.ofString "made") (PyData.keyHash w.params (Str.ofString "made")) (.str (Str.ofString "made") t) (.int k tm') (wEs w ks V store aside H made tm), putN (Str.ofString "made") (wEs w ks V store aside H made tm) 26) = (wEs w ks V store aside H k tm', 26) := by k_put
theorem mkarr_C (w : World) {wi wd store aside H args : Addr} {ks : Nat → Tok} {V : Nat → Value} {made : Int} {tm t1 t2 : Tok} {hs : List Value} {n2 n3 : Nat}
  (hm : 0 ≤ made) (hm2 : made ≤ 20) (hl : hs.length ≤ 20) (hne : PairN [wi, wd, H, args]) :
  Spec w 303 10 292 [.ref wi, .ref args] [(wi, instObj 231 wd), (wd, dictOf (wEs w ks V store aside H made tm) 26), (H, listOf hs.toArray n2), (args, listOf #[.str (Str.ofString "2") t1, .str (Str.ofString "x") t2] n3)] (fun r ft => ∃ (x : Arr) (tm' tmk : Tok), r = Value.ref x.a ∧ x.num = made + 1 ∧
    (@LT.lt Nat _ x.d x.a ∧ @LT.lt Nat _ x.a x.i ∧ @LT.lt Nat _ wi x.d ∧ @LT.lt Nat _ wd x.d ∧ @LT.lt Nat _ H x.d ∧ @LT.lt Nat _ args x.d) ∧
    ft = arrLed w x 0 tmk (Value.str (Str.ofString "x") x.tx) ++ [(wi, instObj 231 wd), (wd, dictOf (wEs w ks V store aside H (made + 1) tm') 26), (H, listOf (hs ++ [Value.ref x.a]).toArray (n2 + 1)), (args, listOf #[.str (Str.ofString "2") t1, .str (Str.ofString "x") t2] n3)]) := by
  k_with_none
  k_with "setAttr ref" => (k_here; (with_reducible show wpAny _ _ (setAttr (Value.ref _) (Str.ofString "made") _) _ _ _); k_dflt (refine' set_dict ?zk1 ?zk2 ?zk3 ?zk4 ?zk5 ?zk6 ?zk7 ?zk8 ?zk9 ?zk10 ?zk11 ?zk12 ?zk13 ?_; (case zk1 => k_asm); (case zk2 => k_asm); (case zk3 => k_asm); (case zk4 => k_inst); (case zk5 => exact rfl); (case zk6 => k_is); (case zk7 => k_is); (case zk8 => k_is); (case zk9 => k_is); (case zk10 => k_get); (case zk11 => exact put_made); (case zk12 => k_upd); (case zk13 => exact Nat.le_of_ble_eq_true rfl); k_whole; intro h'k F'k N'k; (try k_sweep)))
  k_with "execs cons" => (k_here; dsimp only; refine genTok ?_; intro tkG)
  k_with "call ref" => (k_here; (with_reducible show wpAny _ _ (call (Value.ref 206) _) _ _ _); k_dflt (refine' Spec.use0 (bounds_C _) ?zk1 ?zk2 ?zk3 ?zk4 ?zk5 ?zkK ?_; (case zk1 => k_asm); (case zk2 => k_asm); (case zk3 => k_asm); (case zk4 => k_asm); (case zk5 => k_asm); (case zkK => first | exact rfl | assumption)); intro r9k ft9k h'k tk'k hPk F'k N'k hap'k; (obtain ⟨bl9k, tp9k, c9k, d9k, t9k, u9k, lt9k, e9k, e10k⟩ := hPk); subst e9k; subst e10k; (try dsimp only [List.nil_append, List.cons_append] at N'k); (replace hap'k := apartL_of hap'k; simp only [ApartL, NeAll, and_true] at hap'k; refine hideG fun gP gK => ?_; k_dflt (repeat (rename _ ∧ _ => hck; rcases hck with ⟨_, _⟩)); refine gK ?_; clear gK gP); (try k_fold))
  k_with "binaryOp Mult ref int" => (k_here; (with_reducible show wpAny _ _ (binaryOp Operator.Mult (Value.ref _) (Value.int _ _)) _ _ _); k_dflt (refine' KMa.mul (ws := [_, _]) ?zF ?zN ?zl ?zlo ?zhi ?zz ?ze ?_; (case zF => k_asm); (case zN => k_asm); (case zl => is_list); (case zlo => decide); (case zhi => decide); (case zz => exact Nat.le_of_ble_eq_true rfl); (case ze => exact rfl)); intro D'k h'k F'k N'k l1k; (try k_lt l1k); (try k_sweep))
  intro cn cs a ccd cl outer A₀ base h₀ L m s Q E p loose mean mg mb rest B F X N T hk hap hret
  revert X; k_fill; intro X
  simp only [PairN, NeL, and_true] at hne
  refine hideG fun gP gK => ?_
  repeat (rename _ ∧ _ => hc; rcases hc with ⟨_, _⟩)
  refine gK ?_
  clear gK gP
  refine wpAny_call ?_
  k_dflt (refine' foot_code2 (dp' := 304) (un' := 13) _ B F X N T ?kK hap ?k6 ?k7 ?k8 ?k9 ?kB rfl rfl ?_ hret ?c2 ?c3 ?c4 ?c5; (case kK => exact hk); (case k6 => k_is); (case k7 => k_is); (case k8 => k_room); (case k9 => exact BindsTo.of_eq rfl); (case c5 => decide); (case kB => exact locs rfl); (case c2 => exact rfl); (case c3 => exact rfl); (case c4 => exact rfl))
  clear hret N F X T B hap
  intro g' L' s₁ A₁ base' outer' E' Q' F' N' B' X' T' hE' hQ'
  k_steps
  simp only [List.push_toArray] at *
  refine hQ' _ _ ?_
  refine' FootEnd.intro (foot' := [(_, _), (_, _), (_, _), (_, _), (_, _), (_, _), (_, _)]) (by assumption) (newsSub (by assumption) (SubL.mem ?h1)) ⟨⟨_, _, _, _, _, _, _, _, _, _, _, _, _, _, _⟩, _, _, rfl, ?h3, ?h2, rfl⟩
  case h1 => k_subL
  case h2 => refine ⟨?_, ?_, ?_, ?_, ?_, ?_⟩ <;> (dsimp only; first | assumption | omega)
  case h3 => rfl
theorem made_C (w : World) {wi wd store aside H kd things inner held vars : Addr} {ks : Nat → Tok} {V : Nat → Value} {made : Int} {tm : Tok} {ok : Obj} {hs ts is ls : List Value} {n2 n3 n4 n5 : Nat}
  (hm : 0 ≤ made) (hm2 : made ≤ 20) (hl : hs.length ≤ 20) (hl2 : ts.length ≤ 20) (hl3 : is.length ≤ 20) (hl4 : ls.length ≤ 20)
  (hok : SD w ok (kvK things inner held vars)) (lo : (kd == sysModules) = false)
  (hne : PairN [wi, wd, H, kd, things, inner, held]) :
  Spec w 302 7 311 [.ref wi, .ref kd] [(wi, instObj 231 wd), (wd, dictOf (wEs w ks V store aside H made tm) 26), (H, listOf hs.toArray n2), (kd, ok), (things, listOf ts.toArray n3), (inner, listOf is.toArray n4), (held, listOf ls.toArray n5)] (fun r ft => ∃ (x : Arr) (tm' tmk tr t1 : Tok), r = Value.int (is.length : Nat) tr ∧ x.num = made + 1 ∧ PairN [x.a, x.d, x.i, wi, wd, H, kd, things, inner, held] ∧
    ft = arrLed w x 0 tmk (Value.str (Str.ofString "x") x.tx) ++ [(wi, instObj 231 wd), (wd, dictOf (wEs w ks V store aside H (made + 1) tm') 26), (H, listOf (hs ++ [Value.ref x.a]).toArray (n2 + 1)), (kd, ok), (things, listOf (ts ++ [Value.ref x.a]).toArray (n3 + 1)), (inner, listOf (is ++ [Value.int (-1) t1]).toArray (n4 + 1)), (held, listOf (ls ++ [Value.int (is.length : Nat) tr]).toArray (n5 + 1))]) := by
  k_with_none
  k_with "subscriptTail" => (k_here; (with_reducible show wpAny _ _ (subscriptTail _ _ (Value.ref _) (Value.str _ _)) _ _ _); k_dflt (refine kda_item (knd := PySem.strKind _ _) (v := Value.ref _) (by k_asm) (by k_mem) (by k_asm) (strKind_is _ _ _ _) (by rfl) ?_))
  k_with "call ref" => (k_here; (with_reducible show wpAny _ _ (call (Value.ref 292) _) _ _ _); refine stop_ ?_)
  k_with "call builtin:len" => (k_here; (with_reducible show wpAny _ _ (call (Value.builtin "len") [Value.ref _]) _ _ _); k_dflt (refine' len_L ?zN ?zm ?zf ?_; (case zN => k_asm); (case zm => k_mem); (case zf => (simp only [List.size_toArray, List.length_append, List.length_cons, List.length_nil]; omega))))
  k_with "subscriptTail" => (k_here; (with_reducible show wpAny _ _ (subscriptTail _ _ (Value.ref _) (Value.int _ _)) _ _ _); k_dflt (refine' last_L ?zN ?zm ?_; (case zN => k_asm); (case zm => k_mem)))
  intro cn cs a ccd cl outer A₀ base h₀ L m s Q E p loose mean mg mb rest B F X N T hk hap hret
  revert X; k_fill; intro X
  dsimp only [SD, kvK] at hok
  have hne' := hne
  simp only [PairN, NeL, and_true] at hne'
  refine hideG fun gP gK => ?_
  repeat (rename _ ∧ _ => hc; rcases hc with ⟨_, _⟩)
  refine gK ?_
  clear gK gP
  refine wpAny_call ?_
  k_dflt (refine' foot_code _ B F X N T ?kA ?kF ?kK hap ?k6 ?k7 ?k8 ?k9 ?kB ?_ hret ?c2 ?c3 ?c4 ?c5; (case kA => exact rfl); (case kF => exact rfl); (case kK => exact hk); (case k6 => k_is); (case k7 => k_is); (case k8 => k_room); (case k9 => exact BindsTo.of_eq rfl); (case c5 => decide); (case kB => exact locs rfl); (case c2 => exact rfl); (case c3 => exact rfl); (case c4 => exact rfl))
  clear hret N F X T B hap
  intro g' L' h' F' N' B' X' T'
  k_steps
  refine' Spec.use (news := _) (mkarr_C w hm hm2 hl ?h1) [(kd, ok), (things, listOf ts.toArray n3), (inner, listOf is.toArray n4), (held, listOf ls.toArray n5)] ?B ?F ?X ?N ?T ?K (SubL.mem ?hs) (apart_of ?ha) ?_
  case B => assumption
  case F => assumption
  case X => assumption
  case N => assumption
  case T => assumption
  case K => rfl
  case hs => k_subL
  case ha => simp only [ApartL, NeAll, and_true]; ((repeat' refine And.intro ?_ ?_) <;> first | assumption | (refine NE.symm ?_; assumption) | (refine NE.lt ?_; omega) | (refine NE.gt ?_; omega))
  case h1 => simp only [PairN, NeL, and_true]; ((repeat' refine And.intro ?_ ?_) <;> first | assumption | (refine NE.symm ?_; assumption) | (refine NE.lt ?_; omega) | (refine NE.gt ?_; omega))
  intro r9 ft9 h9 tk9 hP F9 N9 ha9 _
  obtain ⟨x, tm', tmk, rfl, hxn, hlt, rfl⟩ := hP
  replace ha9 := apartL_of ha9
  dsimp only [arrLed, List.cons_append, List.nil_append] at N9
  simp only [arrLed, List.cons_append, List.nil_append, ApartL, NeAll, and_true] at ha9
  refine hideG fun gP gK => ?_
  repeat (rename _ ∧ _ => hc; rcases hc with ⟨_, _⟩)
  refine gK ?_
  clear gK gP
  k_steps
  have e : ∀ v : Value, (((is ++ [v]).toArray.size : Nat) : Int) - 1 = ((is.length : Nat) : Int) := by intro v; simp
  simp only [e] at *
  refine' FootEnd.intro (foot' := [(_, _), (_, _), (_, _), (_, _), (_, _), (_, _), (_, _), (_, _), (_, _), (_, _)]) (by assumption) (newsSub (by assumption) (SubL.mem ?h1)) ⟨x, _, _, _, _, rfl, hxn, ?h2, rfl⟩
  case h1 => k_subL
  case h2 => simp only [PairN, NeL, and_true]; (repeat' refine And.intro ?_ ?_) <;> first | assumption | (refine NE.symm ?_; assumption) | (refine NE.lt ?_; omega) | (refine NE.gt ?_; omega)
theorem given_C (w : World) {kd things inner held vars : Addr} {ok : Obj} {ts is : List Value} {ns : List Int} {n3 n4 : Nat} {x : Arr} {mk : Int} {tmk t1 t2 : Tok} {v0 v : Value} {one other : Int}
  (hi : IntsAre is ns) (hl : is.length ≤ 20) (hl2 : ts.length = is.length) (h0 : 0 ≤ one) (h1 : one < is.length)  (h2 : 0 ≤ other) (h3 : other < is.length)
  (hx : ts.toArray[one.toNat]? = some (Value.ref x.a)) (hy : ts.toArray[other.toNat]? = some v)
  (hok : SD w ok (kvK things inner held vars))
  (hne : PairN [x.a, x.d, x.i, kd, things, inner]) :
  Spec w 302 7 318 [.ref kd, .int one t1, .int other t2] (arrLed w x mk tmk v0 ++ [(kd, ok), (things, listOf ts.toArray n3), (inner, listOf is.toArray n4)]) (fun r ft => r = Value.none ∧
    ft = arrLed w x mk tmk v ++ [(kd, ok), (things, listOf ts.toArray n3), (inner, listOf (is.set one.toNat (Value.int other t2)).toArray n4)]) := by
  k_with_none
  k_with "subscriptTail" => (k_here; (with_reducible show wpAny _ _ (subscriptTail _ _ (Value.ref _) (Value.str _ _)) _ _ _); k_dflt (refine kda_item (knd := PySem.strKind _ _) (v := Value.ref _) (by k_asm) (by k_mem) (by k_asm) (strKind_is _ _ _ _) (by rfl) ?_))
  k_with "subscriptTail" => (k_here; (with_reducible show wpAny _ _ (subscriptTail _ _ (Value.ref _) (Value.int _ _)) _ _ _); k_dflt (refine' item_L ?zN ?zm ?zh0 ?zhf ?zhx ?_; (case zN => k_asm); (case zm => k_mem); (case zhx => assumption); (case zh0 => omega); (case zhf => omega)))
  intro cn cs a ccd cl outer A₀ base h₀ L m s Q E p loose mean mg mb rest B F X N T hk hap hret
  revert X; k_fill; intro X
  dsimp only [SD, kvK] at hok
  have hne' := hne
  simp only [PairN, NeL, and_true] at hne'
  refine hideG fun gP gK => ?_
  repeat (rename _ ∧ _ => hc; rcases hc with ⟨_, _⟩)
  refine gK ?_
  clear gK gP
  refine wpAny_call ?_
  k_dflt (refine' foot_code2 (dp' := 303) (un' := 10) _ B F X N T ?kK hap ?k6 ?k7 ?k8 ?k9 ?kB rfl rfl ?_ hret ?c2 ?c3 ?c4 ?c5; (case kK => exact hk); (case k6 => k_is); (case k7 => k_is); (case k8 => k_room); (case k9 => exact BindsTo.of_eq rfl); (case c5 => decide); (case kB => exact locs rfl); (case c2 => exact rfl); (case c3 => exact rfl); (case c4 => exact rfl))
  clear hret N F X T B hap
  intro g' L' s₁ A₁ base' outer' E' Q' F' N' B' X' T' hE' hQ'
  dsimp only [arrLed, List.cons_append, List.nil_append] at N'
  have hil := hi.length
  k_steps
  refine hQ' _ _ ?_
  refine' FootEnd.intro (foot' := [(_, _), (_, _), (_, _), (_, _), (_, _), (_, _)]) (by assumption) (newsSub (by assumption) (SubL.mem ?h1)) ⟨rfl, rfl⟩
  k_subL
theorem kept_C (w : World) {wi wd store aside H kd things inner held vars : Addr} {ks : Nat → Tok} {V : Nat → Value} {made : Int} {tm : Tok} {ok ov os : Obj} {kvv kvs : List (Str × Value)} {ts : List Value} {n3 : Nat} {t1 t2 : Tok} {v : Value} {name : Str} {at_ : Int}
  (hl : ts.length ≤ 20) (h3 : at_ < ts.length) (hy : 0 ≤ at_ → ts.toArray[at_.toNat]? = some v)
  (hok : SD w ok (kvK things inner held vars)) (hov : SD w ov kvv) (hos : SD w os kvs) (hz1 : kvv.length ≤ sizeLine) (hz2 : kvs.length ≤ sizeLine)
  (hne : PairN [wi, wd, store, kd, things, vars]) :
  Spec w 302 7 325 [.ref wi, .ref kd, .str name t1, .int at_ t2] [(wi, instObj 231 wd), (wd, dictOf (wEs w ks V store aside H made tm) 26), (store, os), (kd, ok), (things, listOf ts.toArray n3), (vars, ov)] (fun r ft => ∃ ov' os' v', r = Value.none ∧ (at_ < 0 → ∃ t, v' = Value.str (Str.ofString "") t) ∧ (0 ≤ at_ → v' = v) ∧ SD w ov' (stored kvv name (Value.int at_ t2)) ∧ SD w os' (stored kvs name v') ∧
    ft = [(wi, instObj 231 wd), (wd, dictOf (wEs w ks V store aside H made tm) 26), (store, os'), (kd, ok), (things, listOf ts.toArray n3), (vars, ov')]) := by
  k_with_none
  k_with "subscriptTail" => (k_here; (with_reducible show wpAny _ _ (subscriptTail _ _ (Value.ref _) (Value.str _ _)) _ _ _); k_dflt (refine kda_item (knd := PySem.strKind _ _) (v := Value.ref _) (by k_asm) (by k_mem) (by k_asm) (strKind_is _ _ _ _) (by rfl) ?_))
  k_with "subscriptTail" => (k_here; (with_reducible show wpAny _ _ (subscriptTail _ _ (Value.ref _) (Value.int _ _)) _ _ _); k_dflt (refine' item_L ?zN ?zm ?zh0 ?zhf ?zhx ?_; (case zN => k_asm); (case zm => k_mem); (case zhx => assumption); (case zh0 => omega); (case zhf => omega)))
  k_with "setItem ref str" => (k_here; (with_reducible show wpAny _ _ (setItem (Value.ref _) (Value.str _ _) _) _ _ _); k_dflt (refine' kda_set (knd := PySem.strKind _ _) ?zF ?zN ?zU ?zd (strKind_is _ _ _ _) ?zz ?_; (case zF => k_asm); (case zN => k_asm); (case zU => k_updF); (case zd => k_asm); (case zz => assumption)); intro h'k o'k F'k N'k hd'k; (try dsimp only at N'k))
  intro cn cs a ccd cl outer A₀ base h₀ L m s Q E p loose mean mg mb rest B F X N T hk hap hret
  revert X; k_fill; intro X
  dsimp only [SD, kvK] at hok hov hos
  have hne' := hne
  simp only [PairN, NeL, and_true] at hne'
  refine hideG fun gP gK => ?_
  repeat (rename _ ∧ _ => hc; rcases hc with ⟨_, _⟩)
  refine gK ?_
  clear gK gP
  refine wpAny_call ?_
  k_dflt (refine' foot_code2 (dp' := 303) (un' := 10) _ B F X N T ?kK hap ?k6 ?k7 ?k8 ?k9 ?kB rfl rfl ?_ hret ?c2 ?c3 ?c4 ?c5; (case kK => exact hk); (case k6 => k_is); (case k7 => k_is); (case k8 => k_room); (case k9 => exact BindsTo.of_eq rfl); (case c5 => decide); (case kB => exact locs rfl); (case c2 => exact rfl); (case c3 => exact rfl); (case c4 => exact rfl))
  clear hret N F X T B hap
  intro g' L' s₁ A₁ base' outer' E' Q' F' N' B' X' T' hE' hQ'
  by_cases hneg : at_ < 0
  · k_steps
    refine hQ' _ _ ?_
    refine' FootEnd.intro (foot' := [(_, _), (_, _), (_, _), (_, _), (_, _), (_, _)]) (by assumption) (newsSub (by assumption) (SubL.mem ?h1)) ⟨_, _, _, rfl, ?h2, ?h3, ?h4, ?h5, rfl⟩
    case h1 => k_subL
    case h4 => assumption
    case h5 => assumption
    case h2 => first | exact fun _ => ⟨_, rfl⟩ | (intro h; omega)
    case h3 => first | (intro h; omega) | exact fun _ => rfl
  · have hy' := hy (by omega)
    k_steps
    refine hQ' _ _ ?_
    refine' FootEnd.intro (foot' := [(_, _), (_, _), (_, _), (_, _), (_, _), (_, _)]) (by assumption) (newsSub (by assumption) (SubL.mem ?h1)) ⟨_, _, _, rfl, ?h2, ?h3, ?h4, ?h5, rfl⟩
    case h1 => k_subL
    case h4 => assumption
    case h5 => assumption
    case h2 => first | exact fun _ => ⟨_, rfl⟩ | (intro h; omega)
    case h3 => first | (intro h; omega) | exact fun _ => rfl
theorem things_C (w : World) {x : Arr} {mk : Int} {tmk : Tok} {v0 : Value} (hne : PairN [x.a, x.d, x.i]) :
  Spec w 306 19 268 [.ref x.a] (arrLed w x mk tmk v0) (fun r ft => r = Value.ref x.i ∧ ft = arrLed w x mk tmk v0) := by
  k_with_none
  intro cn cs a ccd cl outer A₀ base h₀ L m s Q E p loose mean mg mb rest B F X N T hk hap hret
  revert X; k_fill; intro X
  have hne' := hne
  simp only [PairN, NeL, and_true] at hne'
  refine hideG fun gP gK => ?_
  repeat (rename _ ∧ _ => hc; rcases hc with ⟨_, _⟩)
  refine gK ?_
  clear gK gP
  refine wpAny_call ?_
  k_dflt (refine' foot_code2 (dp' := 307) (un' := 22) _ B F X N T ?kK hap ?k6 ?k7 ?k8 ?k9 ?kB rfl rfl ?_ hret ?c2 ?c3 ?c4 ?c5; (case kK => exact hk); (case k6 => k_is); (case k7 => k_is); (case k8 => k_room); (case k9 => exact BindsTo.of_eq rfl); (case c5 => decide); (case kB => exact locs rfl); (case c2 => exact rfl); (case c3 => exact rfl); (case c4 => exact rfl))
  clear hret N F X T B hap
  intro g' L' s₁ A₁ base' outer' E' Q' F' N' B' X' T' hE' hQ'
  dsimp only [arrLed, List.cons_append, List.nil_append] at N'
  k_steps
  refine hQ' _ _ ?_
  refine' FootEnd.intro (foot' := [(_, _), (_, _), (_, _)]) (by assumption) (newsSub (by assumption) (SubL.mem ?h1)) ⟨rfl, rfl⟩
  k_subL
theorem thingsS_C (w : World) {y : Str} {t : Tok} :
  Spec w 306 19 268 [.str y t] [] (fun r ft => ∃ l c, r = Value.ref l ∧ ft = [(l, listOf #[] c)]) := by
  k_with_none
  intro cn cs a ccd cl outer A₀ base h₀ L m s Q E p loose mean mg mb rest B F X N T hk hap hret
  revert X; k_fill; intro X
  refine wpAny_call ?_
  k_dflt (refine' foot_code2 (dp' := 307) (un' := 22) _ B F X N T ?kK hap ?k6 ?k7 ?k8 ?k9 ?kB rfl rfl ?_ hret ?c2 ?c3 ?c4 ?c5; (case kK => exact hk); (case k6 => k_is); (case k7 => k_is); (case k8 => k_room); (case k9 => exact BindsTo.of_eq rfl); (case c5 => decide); (case kB => exact locs rfl); (case c2 => exact rfl); (case c3 => exact rfl); (case c4 => exact rfl))
  clear hret N F X T B hap
  intro g' L' s₁ A₁ base' outer' E' Q' F' N' B' X' T' hE' hQ'
  k_steps
  refine hQ' _ _ ?_
  refine' FootEnd.intro (foot' := [(_, _)]) (by assumption) (newsSub (by assumption) (SubL.mem ?h1)) ⟨_, _, rfl, rfl⟩
  k_subL
/-- an array with its mark and what its first item is -/
structure Cell where
  x : Arr
  mrk : Int
  tmk : Tok
  v0 : Value
noncomputable abbrev cellLed (w : World) (c : Cell) : Led := arrLed w c.x c.mrk c.tmk c.v0
noncomputable def cellsLed (w : World) (cs : List Cell) : Led := cs.flatMap (cellLed w)
/-- pairwise distinct addresses, a form that simp opens -/
noncomputable def NDL : Led → Prop
  | [] => True
  | p :: r => NeAll p.1 r ∧ NDL r
theorem ndl_of : ∀ {l : Led}, (l.map (·.1)).Nodup → NDL l
  | [], _ => trivial
  | p :: r, h => by
    rw [List.map_cons, List.nodup_cons] at h
    exact ⟨neAll_of fun q hq e => h.1 (List.mem_map.mpr ⟨q, hq, e.symm⟩), ndl_of h.2⟩
theorem nodup_of : ∀ {l : Led}, NDL l → (l.map (·.1)).Nodup
  | [], _ => List.nodup_nil
  | p :: r, h => by
    rw [List.map_cons, List.nodup_cons]
    refine ⟨fun hm => ?_, nodup_of h.2⟩
    obtain ⟨q, hq, e⟩ := List.mem_map.mp hm
    exact h.1.mem q hq e
theorem NDL.perm {a b : Led} (h : a.Perm b) (x : NDL a) : NDL b := ndl_of ((h.map (·.1)).nodup_iff.mp (nodup_of x))
theorem NDL.addrs {a b : Led} (h : a.map (·.1) = b.map (·.1)) (x : NDL a) : NDL b := ndl_of (h ▸ nodup_of x)
theorem NDL.app {a b : Led} (h : NDL (a ++ b)) : NDL a ∧ NDL b ∧ Apart a b := by
  have := nodup_of h
  rw [List.map_append, List.nodup_append] at this
  exact ⟨ndl_of this.1, ndl_of this.2.1, fun p hp q hq => this.2.2 _ (List.mem_map_of_mem hp) _ (List.mem_map_of_mem hq)⟩
theorem NDL.mk_app {a b : Led} (ha : NDL a) (hb : NDL b) (h : Apart a b) : NDL (a ++ b) := by
  refine ndl_of ?_
  rw [List.map_append, List.nodup_append]
  refine ⟨nodup_of ha, nodup_of hb, fun u hu v hv => ?_⟩
  obtain ⟨p, hp, rfl⟩ := List.mem_map.mp hu
  obtain ⟨q, hq, rfl⟩ := List.mem_map.mp hv
  exact h p hp q hq
theorem cons_erase {α : Type} {c : α} : ∀ {cs : List α} {j : Nat}, cs[j]? = some c → cs.Perm (c :: cs.eraseIdx j)
  | [], _, h => by simp at h
  | a :: r, 0, h => by simp at h; subst h; exact .refl _
  | a :: r, j + 1, h => ((cons_erase (by simpa using h)).cons a).trans (.swap ..)
theorem cells_perm (w : World) {cs : List Cell} {j : Nat} {c : Cell} (h : cs[j]? = some c) : (cellsLed w cs).Perm (cellLed w c ++ cellsLed w (cs.eraseIdx j)) := by
  have := (cons_erase h).flatMap_right (cellLed w)
  rw [List.flatMap_cons] at this
  exact this
theorem cells_perm_set (w : World) {cs : List Cell} {j : Nat} {c : Cell} (h : j < cs.length) : (cellsLed w (cs.set j c)).Perm (cellLed w c ++ cellsLed w (cs.eraseIdx j)) := by
  have h' : (cs.set j c)[j]? = some c := by simp [h]
  have := cells_perm w h'
  rwa [show (cs.set j c).eraseIdx j = cs.eraseIdx j from by
    simp [List.eraseIdx_set_eq]] at this
theorem cells_addrs (w : World) : ∀ {cs ds : List Cell}, cs.map (fun c => c.x) = ds.map (fun c => c.x) → (cellsLed w cs).map (·.1) = (cellsLed w ds).map (·.1)
  | [], [], _ => rfl
  | c :: cs, d :: ds, h => by
    simp only [List.map_cons, List.cons.injEq] at h
    have ih := cells_addrs w h.2
    simp only [cellsLed, List.flatMap_cons, List.map_append] at ih ⊢
    rw [ih]
    simp only [cellLed, arrLed, List.map_cons, List.map_nil, h.1]
  | [], _ :: _, h => by simp at h
  | _ :: _, [], h => by simp at h
/-- the part of the cells that the marks do not touch -/
noncomputable abbrev sk (cs : List Cell) : List (Arr × Value) := cs.map fun c => (c.x, c.v0)
theorem sk_set {cs : List Cell} {j : Nat} {c d : Cell} (h : cs[j]? = some c) (e1 : d.x = c.x) (e2 : d.v0 = c.v0) : sk (cs.set j d) = sk cs := by
  apply List.ext_getElem?
  intro i
  by_cases hi : j = i
  · subst hi
    obtain ⟨hj, rfl⟩ := List.getElem?_eq_some_iff.mp h
    simp [hj, e1, e2]
  · simp [List.getElem?_set, hi]
theorem sk_x {cs ds : List Cell} (h : sk cs = sk ds) : cs.map (fun c => c.x) = ds.map (fun c => c.x) := by
  have := congrArg (List.map Prod.fst) h
  simpa [sk, List.map_map, Function.comp_def] using this
/-- item 0 of an array is what inner says: no other array, or the array of that place -/
noncomputable def Points (S : List (Arr × Value)) (k : Int) (v : Value) : Prop := (k < 0 ∧ ∃ s t, v = Value.str s t) ∨ (0 ≤ k ∧ ∃ q, S[k.toNat]? = some q ∧ v = Value.ref q.1.a)
structure GG (S : List (Arr × Value)) (inner : List Int) : Prop where
  len : S.length = inner.length
  num : ∀ (i : Nat) (q : Arr × Value), S[i]? = some q → q.1.num = (i : Int) + 1
  pts : ∀ (i : Nat) (q : Arr × Value) (k : Int), S[i]? = some q → inner[i]? = some k → Points S k q.2
/-- the entries at the given places -/
noncomputable abbrev pick {α : Type} (l : List α) (is : List Nat) : List α := is.filterMap fun i => l[i]?
theorem pick_range {α : Type} : ∀ l : List α, pick l (List.range l.length) = l
  | [] => rfl
  | a :: l => by
    have ih := pick_range l
    rw [pick, List.length_cons, List.range_succ_eq_map, List.filterMap_cons, List.filterMap_map]
    simp only [List.getElem?_cons_zero]
    congr 1
theorem pick_perm {α : Type} {l : List α} {is : List Nat} (h : is.Perm (List.range l.length)) : (pick l is).Perm l := by
  have := h.filterMap (fun i => l[i]?)
  rwa [show (List.range l.length).filterMap (fun i => l[i]?) = l from pick_range l] at this
/-- two parts of a ledger, in another order, its tail last -/
theorem pick_both {l R a b : Led} {n : Nat} {is : List Nat} (h : is.Perm (List.range n)) (hn : l.length = n) (e : pick l is = a ++ b) : (a ++ (b ++ R)).Perm (l ++ R) := by
  subst hn
  rw [← List.append_assoc, ← e]
  exact (pick_perm h).append_right R
theorem neAll_neL : ∀ {l : Led} {a : Nat}, NeAll a l → NeL a (l.map (·.1))
  | [], _, _ => trivial
  | _ :: _, _, h => ⟨h.1, neAll_neL h.2⟩
theorem ndl_pairN : ∀ {l : Led}, NDL l → PairN (l.map (·.1))
  | [], _ => trivial
  | _ :: _, h => ⟨neAll_neL h.1, ndl_pairN h.2⟩
theorem neL_neAll : ∀ {l : Led} {a : Nat}, NeL a (l.map (·.1)) → NeAll a l
  | [], _, _ => trivial
  | _ :: _, _, h => ⟨h.1, neL_neAll h.2⟩
theorem pairN_ndl : ∀ {l : Led}, PairN (l.map (·.1)) → NDL l
  | [], _ => trivial
  | _ :: _, h => ⟨neL_neAll h.1, pairN_ndl h.2⟩
/-- the same, with one cell taken out of the cells -/
theorem cell_both {heads a b R arr C : Led} (P0 : (a ++ (b ++ R)).Perm (heads ++ R)) (hp : C.Perm (arr ++ R)) : ((arr ++ a) ++ (b ++ R)).Perm (heads ++ C) := by
  rw [List.append_assoc]
  exact ((P0.append_left arr).trans (by rw [← List.append_assoc, ← List.append_assoc]; exact List.perm_append_comm.append_right R)).trans (hp.symm.append_left heads)
/-- the facts of a distinct ledger, one behind the other, as the premises of what is to be shown: no case split, so the goal is not copied -/
noncomputable def NaK (a : Nat) : Led → Led → Prop → Prop
  | [], R, P => NeAll a R → P
  | q :: r, R, P => NE a q.1 → NaK a r R P
noncomputable def NdK : Led → Led → Prop → Prop
  | [], R, P => NDL R → P
  | p :: r, R, P => NaK p.1 r R (NdK r R P)
theorem naK {a : Nat} {R : Led} {P : Prop} : ∀ {l : Led}, NeAll a (l ++ R) → NaK a l R P → P
  | [], h, k => k h
  | _ :: _, h, k => naK h.2 (k h.1)
theorem ndK {R : Led} {P : Prop} : ∀ {l : Led}, NDL (l ++ R) → NdK l R P → P
  | [], h, k => k h
  | _ :: _, h, k => ndK h.2 (naK h.1 k)
noncomputable def NeLK (a : Nat) : List Nat → Prop → Prop
  | [], P => P
  | b :: r, P => NE a b → NeLK a r P
noncomputable def PairK : List Nat → Prop → Prop
  | [], P => P
  | a :: r, P => NeLK a r (PairK r P)
theorem neLK {a : Nat} {P : Prop} : ∀ {l : List Nat}, NeL a l → NeLK a l P → P
  | [], _, k => k
  | _ :: _, h, k => neLK h.2 (k h.1)
theorem pairK {P : Prop} : ∀ {l : List Nat}, PairN l → PairK l P → P
  | [], _, k => k
  | _ :: _, h, k => pairK h.2 (neLK h.1 k)
theorem demo {a b c d : Addr × Obj} {R : Led} : ([c, a] ++ ([d, b] ++ R)).Perm (a :: b :: c :: d :: R) := pick_both (l := [a, b, c, d]) (is := [2, 0, 3, 1]) (n := 4) (by decide) rfl rfl
/-- the places to which the roots lead -/
inductive Rch (inner : List Int) (rts : List Nat) : Nat → Prop
  | root {j : Nat} : j ∈ rts → Rch inner rts j
  | step {j : Nat} {k : Int} : Rch inner rts j → inner[j]? = some k → 0 ≤ k → Rch inner rts k.toNat
noncomputable def Inj (S : List (Arr × Value)) : Prop := ∀ (i k : Nat) (q r : Arr × Value), S[i]? = some q → S[k]? = some r → q.1.a = r.1.a → i = k
noncomputable def At (S : List (Arr × Value)) (j : Nat) (v : Value) : Prop := ∃ q, S[j]? = some q ∧ v = Value.ref q.1.a
/-- what the work list holds -/
noncomputable def WV (S : List (Arr × Value)) (inner : List Int) (rts : List Nat) (v : Value) : Prop := (∃ s t, v = Value.str s t) ∨ ∃ j, At S j v ∧ Rch inner rts j
structure RInv (S : List (Arr × Value)) (inner : List Int) (rts : List Nat) (ws : List Value) (ms : List Nat) : Prop where
  wv : ∀ v ∈ ws, WV S inner rts v
  met : ∀ j ∈ ms, Rch inner rts j
  clo : ∀ j ∈ ms, ∀ k, inner[j]? = some k → 0 ≤ k → k.toNat ∈ ms ∨ ∃ v ∈ ws, At S k.toNat v
  top : ∀ j ∈ rts, j ∈ ms ∨ ∃ v ∈ ws, At S j v
theorem At.inj {S : List (Arr × Value)} (h : Inj S) {i k : Nat} {v : Value} (a : At S i v) (b : At S k v) : i = k := by
  obtain ⟨q, hq, rfl⟩ := a
  obtain ⟨r, hr, e⟩ := b
  exact h i k q r hq hr (Value.ref.inj e)
theorem At.str {S : List (Arr × Value)} {i : Nat} {s : Str} {t : Tok} (a : At S i (Value.str s t)) : False := by
  obtain ⟨q, _, e⟩ := a
  cases e
section
variable {S : List (Arr × Value)} {inner : List Int} {rts : List Nat} {ws : List Value} {ms : List Nat}
theorem RInv.pop_str {s : Str} {t : Tok} (x : RInv S inner rts (ws ++ [Value.str s t]) ms) {u : List Value} (hu : ∀ v ∈ u, ∃ s t, v = Value.str s t) : RInv S inner rts (ws ++ u) ms := by
  have old : ∀ j, (∃ v ∈ ws ++ [Value.str s t], At S j v) → ∃ v ∈ ws ++ u, At S j v := by
    rintro j ⟨v, hv, ha⟩
    rcases List.mem_append.mp hv with hv | hv
    · exact ⟨v, List.mem_append_left _ hv, ha⟩
    · rw [List.mem_singleton.mp hv] at ha; exact ha.str.elim
  refine ⟨fun v hv => ?_, x.met, fun j hj k hk h0 => (x.clo j hj k hk h0).imp_right (old _), fun j hj => (x.top j hj).imp_right (old _)⟩
  rcases List.mem_append.mp hv with hv | hv
  · exact x.wv v (List.mem_append_left _ hv)
  · exact .inl (hu v hv)
theorem RInv.pop_met (hi : Inj S) {j : Nat} {v : Value} (hj : j ∈ ms) (ha : At S j v) (x : RInv S inner rts (ws ++ [v]) ms) : RInv S inner rts ws ms := by
  have old : ∀ k, (∃ u ∈ ws ++ [v], At S k u) → k ∈ ms ∨ ∃ u ∈ ws, At S k u := by
    rintro k ⟨u, hu, hk⟩
    rcases List.mem_append.mp hu with hu | hu
    · exact .inr ⟨u, hu, hk⟩
    · rw [List.mem_singleton.mp hu] at hk
      rw [hk.inj hi ha]; exact .inl hj
  exact ⟨fun v hv => x.wv v (List.mem_append_left _ hv), x.met, fun j hj k hk h0 => (x.clo j hj k hk h0).elim .inl (old _), fun j hj => (x.top j hj).elim .inl (old _)⟩
theorem RInv.pop_new (hi : Inj S) (hg : GG S inner) {j : Nat} {q : Arr × Value} {s : Str} {t : Tok} (hq : S[j]? = some q) (x : RInv S inner rts (ws ++ [Value.ref q.1.a]) ms) :
    RInv S inner rts (ws ++ [q.2, Value.str s t]) (ms ++ [j]) := by
  have ha : At S j (Value.ref q.1.a) := ⟨q, hq, rfl⟩
  have hR : Rch inner rts j := by
    rcases x.wv _ (List.mem_append_right _ (List.mem_singleton.mpr rfl)) with ⟨s, t, e⟩ | ⟨k, hk, hr⟩
    · cases e
    · rw [ha.inj hi hk]; exact hr
  have hlt : j < S.length := (List.getElem?_eq_some_iff.mp hq).1
  obtain ⟨k0, hk0⟩ : ∃ k, inner[j]? = some k := ⟨inner[j]'(hg.len ▸ hlt), by simp [hg.len ▸ hlt]⟩
  have hp := hg.pts j q k0 hq hk0
  have old : ∀ k, (∃ u ∈ ws ++ [Value.ref q.1.a], At S k u) → k ∈ ms ++ [j] ∨ ∃ u ∈ ws ++ [q.2, Value.str s t], At S k u := by
    rintro k ⟨u, hu, hk⟩
    rcases List.mem_append.mp hu with hu | hu
    · exact .inr ⟨u, List.mem_append_left _ hu, hk⟩
    · rw [List.mem_singleton.mp hu] at hk
      rw [hk.inj hi ha]; exact .inl (by simp)
  refine ⟨fun v hv => ?_, fun i hi' => ?_, fun i hi' k hk h0 => ?_, fun i hi' => ?_⟩
  · rcases List.mem_append.mp hv with hv | hv
    · exact x.wv v (List.mem_append_left _ hv)
    · simp only [List.mem_cons, List.not_mem_nil, or_false] at hv
      rcases hv with rfl | rfl
      · rcases hp with ⟨_, s, t, e⟩ | ⟨h0, r, hr, e⟩
        · exact .inl ⟨s, t, e⟩
        · exact .inr ⟨k0.toNat, ⟨r, hr, e⟩, .step hR hk0 h0⟩
      · exact .inl ⟨_, _, rfl⟩
  · rcases List.mem_append.mp hi' with hi' | hi'
    · exact x.met i hi'
    · rw [List.mem_singleton.mp hi']; exact hR
  · rcases List.mem_append.mp hi' with hi' | hi'
    · rcases x.clo i hi' k hk h0 with h | h
      · exact .inl (List.mem_append_left _ h)
      · exact old _ h
    · rw [List.mem_singleton.mp hi', hk0] at hk
      obtain rfl := Option.some.inj hk
      rcases hp with ⟨h1, _⟩ | ⟨_, r, hr, e⟩
      · omega
      · exact .inr ⟨q.2, by simp, r, hr, e⟩
  · rcases x.top i hi' with h | h
    · exact .inl (List.mem_append_left _ h)
    · exact old _ h
theorem RInv.done (x : RInv S inner rts [] ms) (j : Nat) : j ∈ ms ↔ Rch inner rts j := by
  refine ⟨x.met j, fun h => ?_⟩
  induction h with
  | root h => exact (x.top _ h).elim id fun ⟨_, h, _⟩ => nomatch h
  | step _ hk h0 ih => exact (x.clo _ ih _ hk h0).elim id fun ⟨_, h, _⟩ => nomatch h
end
theorem nodup_len : ∀ (n : Nat) (l : List Nat), l.Nodup → (∀ j ∈ l, j < n) → l.length ≤ n
  | 0, [], _, _ => Nat.le_refl _
  | 0, a :: _, _, h => absurd (h a (.head _)) (Nat.not_lt_zero _)
  | n + 1, l, hn, h => by
    have h1 : (l.erase n).length ≤ n := nodup_len n (l.erase n) (hn.erase n) fun j hj => by
      have h2 := h j (List.mem_of_mem_erase hj)
      have h3 : j ≠ n := fun e => by
        subst e
        exact (List.Nodup.not_mem_erase hn) hj
      omega
    have h4 := List.length_erase (a := n) (l := l)
    split at h4 <;> omega
structure Kp (P : Prop) : Prop where
  out : P
noncomputable abbrev kvM (ms : List Nat) : List (Int × Value) := ms.map fun j => (((j : Nat) : Int) + 1, Value.bool true)
theorem kvM_mem {ms : List Nat} {j : Nat} : (valueAt (kvM ms) (((j : Nat) : Int) + 1)).isSome = decide (j ∈ ms) := by
  rw [valueAt_isSome_eq_any]
  by_cases h : j ∈ ms
  · rw [decide_eq_true h, List.any_eq_true]
    exact ⟨_, List.mem_map_of_mem h, by simp⟩
  · rw [decide_eq_false h, List.any_eq_false]
    intro x hx
    obtain ⟨k, hk, rfl⟩ := List.mem_map.mp hx
    simp only [decide_eq_true_eq]
    intro e
    have : k = j := by omega
    exact h (this ▸ hk)
theorem kvM_new {ms : List Nat} {j : Nat} (h : j ∉ ms) : stored (kvM ms) (((j : Nat) : Int) + 1) (Value.bool true) = kvM (ms ++ [j]) := by
  have : valueAt (kvM ms) (((j : Nat) : Int) + 1) = none := by
    have := kvM_mem (ms := ms) (j := j)
    rw [decide_eq_false h] at this
    simpa using this
  rw [stored_absent this]
  simp
theorem notLong {its its2 : Array Value} (h : its.size + its2.size ≤ 1000) : ¬(!its.isEmpty && Builtin.List.listTooLong (its.size + its2.size)) = true := by
  have : Builtin.List.listTooLong (its.size + its2.size) = false := by
    unfold Builtin.List.listTooLong
    simp [sizeLine]
    omega
  rw [this]
  simp
theorem intsAre_of : ∀ {vs : List Value}, (∀ v ∈ vs, ∃ k t, v = Value.int k t) → ∃ ns, IntsAre vs ns
  | [], _ => ⟨[], .nil⟩
  | v :: r, h => by
    obtain ⟨k, t, rfl⟩ := h v (.head _)
    obtain ⟨ns, hn⟩ := intsAre_of fun v hv => h v (.tail _ hv)
    exact ⟨k :: ns, .cons k t hn⟩
theorem listMet {prog : Program} {w : World} {A : Around} {E : Value → Shared → Prop} {s : Shared} {h₀ : Heap} {L M : Addr} {m : Str → Option Value} {news : Led} {om : Obj} {kvs : List (Int × Value)} {Q : Value → Shared → Prop} (hh : A.handled = none) (F : Fr h₀ L s.heap m) (N : News h₀ L s.heap news) (hm : (M, om) ∈ news) (hd : om.IsDictOf (intKind prog w) kvs) (lo : (M == sysModules) = false) (hn : kvs.length ≤ 60)
    (h : ∀ D c h' tk vs ns, Fr h₀ L h' m → News h₀ L h' ((D, listOf vs.toArray c) :: news) → (∀ q ∈ news, q.1 < D) → IntsAre vs ns → ns.length ≤ 60 → Q (.ref D) { s with heap := h', toks := tk }) :
    wpAny (model prog w) A (call (.type "list") [.ref M]) Q E s := by
  obtain ⟨ep, hat⟩ := (kda_dict N hm hd).dictAt
  refine kdl_N (kdl_dict (knd := intKind prog w) (kvs := kvs) (ep := ep) lo) hh F N hat (by rw [sizeLine_eq]; omega) fun B c h' tk vs F' N' l1 hl hv => ?_
  obtain ⟨ns, hI⟩ := intsAre_of (vs := vs) fun v hv' => by
    obtain ⟨j, hj⟩ := List.getElem?_of_mem hv'
    obtain ⟨k, x, hx, hk⟩ := hv j v hj
    obtain ⟨t, rfl⟩ := Value.isInt_shape hk
    exact ⟨k, t, rfl⟩
  exact h B c h' tk vs ns F' N' l1 hI (by rw [← hI.length, hl]; exact hn)
theorem ws2_end {h₀ h' : Heap} {L : Addr} {s : Shared} {J : Nat → (Str → Option Value) → List (Addr × Obj) → Prop} {Q : Flow → Shared → Prop} {n n' tk : Nat} {m₂ : Str → Option Value} {news' news₂ : Led} (F : Fr h₀ L h' m₂) (N : News h₀ L h' news') (hs : ∀ p ∈ news₂, p ∈ news') (hn : n' < n) (hJ : J n' m₂ news₂) :
    WhileStep2 h₀ L s J Q n .next { s with heap := h', toks := tk } := ⟨h', tk, m₂, news₂, n', rfl, F, newsSub N hs, hn, hJ⟩
theorem ws2_cont {h₀ h' : Heap} {L : Addr} {s : Shared} {J : Nat → (Str → Option Value) → List (Addr × Obj) → Prop} {Q : Flow → Shared → Prop} {n n' tk : Nat} {m₂ : Str → Option Value} {news' news₂ : Led} (F : Fr h₀ L h' m₂) (N : News h₀ L h' news') (hs : ∀ p ∈ news₂, p ∈ news') (hn : n' < n) (hJ : J n' m₂ news₂) :
    WhileStep2 h₀ L s J Q n .cont { s with heap := h', toks := tk } := ⟨h', tk, m₂, news₂, n', rfl, F, newsSub N hs, hn, hJ⟩
theorem neAll_lt {a : Nat} : ∀ {l : Led}, AllLt a l → NeAll a l
  | [], _ => trivial
  | _ :: _, h => ⟨NE.gt h.1, neAll_lt h.2⟩
theorem neAll_addrs {a : Nat} {l l' : Led} (h : l.map (·.1) = l'.map (·.1)) (x : NeAll a l) : NeAll a l' := neAll_of fun q hq e => by
  have : q.1 ∈ l.map (·.1) := h ▸ List.mem_map_of_mem hq
  obtain ⟨p, hp, e'⟩ := List.mem_map.mp this
  exact x.mem p hp (e'.trans e.symm)
theorem reach_C (w : World) {rl : Addr} {rs : List Value} {nr : Nat} {cells : List Cell} {inner : List Int} {rts : List Nat} (hrs : rs.length ≤ 20) (hcl : cells.length ≤ 20) (hnd : NDL ((rl, listOf rs.toArray nr) :: cellsLed w cells))
  (hg : GG (sk cells) inner) (hinj : Inj (sk cells)) (hr0 : RInv (sk cells) inner rts rs []) :
  Spec w 305 16 275 [.ref rl] ((rl, listOf rs.toArray nr) :: cellsLed w cells) (fun _ ft => ∃ cs', ft = (rl, listOf rs.toArray nr) :: cellsLed w cs' ∧ sk cs' = sk cells ∧ ∀ (j : Nat) (c c' : Cell), cells[j]? = some c → cs'[j]? = some c' → (Rch inner rts j → c'.mrk = 1) ∧ (¬ Rch inner rts j → c' = c)) := by
  k_with_none
  k_with "execs cons" => (k_here; dsimp only; refine genTok ?_; intro tkG)
  k_with "call type:list" => (k_here; (with_reducible show wpAny _ _ (call (Value.type "list") [Value.ref _]) _ _ _); k_dflt (refine' listMet ?zhh ?zF ?zN ?zm ?zd ?zlo ?zz ?_; (case zhh => rfl); (case zF => k_asm); (case zN => k_asm); (case zd => assumption); (case zm => k_mem); (case zlo => assumption); (case zz => (simp only [List.length_map]; omega))); intro D'k c'k h'k tk'k vs'k ns'k F'k N'k l1k hI'k hn'k; (try k_lt l1k); (try k_sweep))
  k_with "compareOp In int ref" => (k_here; k_dflt (refine kda_in (knd := PySem.intKind _ _) (by k_asm) (by k_mem) (by k_asm) (by k_asm) (intKind_is _ _ _ _) _ (by assumption) ?_))
  k_with "setItem ref int" => (k_here; (with_reducible show wpAny _ _ (setItem (Value.ref _) (Value.int _ _) (Value.bool _)) _ _ _); k_dflt (refine' kda_set (knd := PySem.intKind _ _) ?zF ?zN ?zU ?zd (intKind_is _ _ _ _) ?zz ?_; (case zF => k_asm); (case zN => k_asm); (case zU => k_updF); (case zd => k_asm); (case zz => (rw [sizeLine_eq]; simp only [List.length_map]; omega))); intro h'k o'k F'k N'k hd'k; (try dsimp only at N'k))
  k_with "exec While Compare cons nil" => (k_here; refine stop_ ?_)
  k_with "call ref" => (k_here; (with_reducible show wpAny _ _ (call (Value.ref 268) _) _ _ _); refine stop_ ?_)
  k_with "WhileStep2" => (refine stop_ ?_)
  k_with "call builtin:len" => (k_here; (with_reducible show wpAny _ _ (call (Value.builtin "len") [Value.ref _]) _ _ _); k_dflt (refine' len_L ?zN ?zm ?zf ?_; (case zN => k_asm); (case zm => k_mem); (case zf => (simp only [List.size_toArray, List.length_append, List.length_cons, List.length_nil]; omega))); (try simp only [List.size_toArray, List.length_append, List.length_cons, List.length_nil]))
  k_with "call builtin:list.pop" => (k_here; (with_reducible show wpAny _ _ (call (Value.builtin _) [Value.ref _]) _ _ _); k_dflt (refine' kl_pop (its := (_ ++ [_]).toArray) ?zF ?zN ?ze ?zU ?zz ?_; (case zF => k_asm); (case zN => k_asm); (case ze => exact kpa_last _ _); (case zU => k_upd); (case zz => (rw [sizeLine_eq]; simp only [List.length_append, List.length_cons, List.length_nil]; omega))); intro h'k F'k N'k; (try dsimp only at N'k); (try k_sweep))
  k_with "call builtin:list.extend" => (k_here; (with_reducible show wpAny _ _ (call (Value.builtin _) [Value.ref _, Value.ref _]) _ _ _); k_dflt (first
    | (refine' kxn_extend ?zF ?zN ?zb ?ze ?zU ?zd ?zz ?zy ?_; (case zF => k_asm); (case zN => k_asm); (case zb => k_mem); (case ze => exact rfl); (case zU => k_upd); (case zd => (refine notLong ?_; simp only [List.size_toArray, List.length_append, List.length_cons, List.length_nil]; omega)); (case zz => (rw [sizeLine_eq]; simp only [List.length_append, List.length_cons, List.length_nil]; omega)); (case zy => (rw [sizeLine_eq]; simp only [List.size_toArray, List.length_append, List.length_cons, List.length_nil]; omega)))
    | (refine' kl_extend (l := _ ++ [_, _]) ?zF ?zN ?zb ?ze ?zne ?zU ?zd ?zz ?zy ?_; (case zF => k_asm); (case zN => k_asm); (case zb => k_mem); (case zU => k_upd); (case ze => exact rfl); (case zne => exact Nat.succ_ne_zero _); (case zd => (refine notLong ?_; simp only [List.size_toArray, List.length_append, List.length_cons, List.length_nil]; omega)); (case zz => (rw [sizeLine_eq]; simp only [List.length_append, List.length_cons, List.length_nil]; omega)); (case zy => (rw [sizeLine_eq]; simp only [List.size_toArray, List.length_append, List.length_cons, List.length_nil]; omega)))); intro h'k F'k N'k; (try dsimp only at N'k); (try k_sweep))
  intro cn cs a ccd cl outer A₀ base h₀ L m s Q E p loose mean mg mb rest B F X N T hk hap hret
  revert X; k_fill; intro X
  have hnd0 := Kp.mk hnd
  generalize hR : cellsLed w cells = R at *
  simp only [NDL, NeAll, and_true] at hnd
  refine hideG fun gP gK => ?_
  repeat (rename _ ∧ _ => hc; rcases hc with ⟨_, _⟩)
  refine gK ?_
  clear gK gP
  refine wpAny_call ?_
  k_dflt (refine' foot_code _ B F X N T ?kA ?kF ?kK hap ?k6 ?k7 ?k8 ?k9 ?kB ?_ hret ?c2 ?c3 ?c4 ?c5; (case kA => exact rfl); (case kF => exact rfl); (case kK => exact hk); (case k6 => k_is); (case k7 => k_is); (case k8 => k_room); (case k9 => exact BindsTo.of_eq rfl); (case c5 => decide); (case kB => exact locs rfl); (case c2 => exact rfl); (case c3 => exact rfl); (case c4 => exact rfl))
  clear hret N F X T B hap
  intro g' L' h' F' N' B' X' T'
  k_steps
  rename_i W cW _ lW M _ oM loM hsM fsM hiM fiM lM D _ lD _ _ hN F0 N0
  unfold Stop
  refine While_inv2 (n₀ := 3 * cells.length + rs.length) (fun n mm nx => ∃ (ws : List Value) (nW : Nat) (om : Obj) (ms : List Nat) (cs' : List Cell),
    nx = (M, om) :: (W, listOf ws.toArray nW) :: (rl, listOf rs.toArray nr) :: cellsLed w cs' ∧ mm (Str.ofString "waiting") = some (.ref W) ∧ mm (Str.ofString "met") = some (.ref M) ∧
    om.IsDictOf (intKind PySem.Challenge.rw_rh0226_01.prog w) (kvM ms) ∧ sk cs' = sk cells ∧ RInv (sk cells) inner rts ws ms ∧ ms.Nodup ∧ (∀ j ∈ ms, j < cells.length) ∧
    (∀ (j : Nat) (c c' : Cell), cells[j]? = some c → cs'[j]? = some c' → (j ∈ ms → c'.mrk = 1) ∧ (j ∉ ms → c' = c)) ∧ n = 3 * (cells.length - ms.length) + ws.length ∧ n ≤ 100) F0 (newsSub N0 fun p hp => List.mem_cons_of_mem _ hp) ?hJ ?turn
  case hJ => exact ⟨rs, cW, oM, [], cells, by rw [hR], rfl, rfl, hiM, rfl, hr0, .nil, (fun _ h => nomatch h), (fun j c c' h1 h2 => ⟨(fun h => nomatch h), fun _ => by rw [h1] at h2; exact (Option.some.inj h2).symm⟩), by simp, by omega⟩
  case turn =>
    clear F0 N0 hiM hsM fsM fiM
    intro n mm nx h₁ tk₁ F₁ N₁ hJ₁
    obtain ⟨ws, nW, om, ms, cs', rfl, hmw, hmm, hd, hsk, hRI, hms, hml, hmk, hn, hn2⟩ := hJ₁
    have F₂ : Fr g' L' h₁ (fun y => if y = Str.ofString "waiting" then some (Value.ref W) else if y = Str.ofString "met" then some (Value.ref M) else mm y) := by
      have e : (fun y => if y = Str.ofString "waiting" then some (Value.ref W) else if y = Str.ofString "met" then some (Value.ref M) else mm y) = mm := by
        funext y
        by_cases h1 : y = Str.ofString "waiting"
        · simp [h1, hmw]
        · by_cases h2 : y = Str.ofString "met"
          · rw [h2, if_neg (by decide), if_pos rfl, hmm]
          · simp [h1, h2]
      rw [e]; exact F₁
    clear F₁
    have hwl : ws.length ≤ 100 := by omega
    have hmsl := nodup_len _ _ hms hml
    rcases List.eq_nil_or_concat ws with rfl | ⟨ws', v, hws⟩
    · generalize hR' : cellsLed w cs' = R' at *
      k_steps
      refine' FootEnd.intro (foot' := (rl, listOf rs.toArray nr) :: R') (by assumption) (newsSub (by assumption) ?h1) ⟨cs', ?h2, hsk, ?h3⟩
      case h1 => exact fun p hp => by simp only [List.mem_cons] at hp ⊢; rcases hp with h | h <;> simp [h]
      case h2 => rw [hR']
      case h3 => exact fun j c c' h1 h2 => ⟨fun h => (hmk j c c' h1 h2).1 ((hRI.done j).mpr h), fun h => (hmk j c c' h1 h2).2 fun h' => h ((hRI.done j).mp h')⟩
    · rw [List.concat_eq_append] at hws
      subst hws
      simp only [List.length_append, List.length_cons, List.length_nil] at hwl hn
      have hax : (cellsLed w cells).map (·.1) = (cellsLed w cs').map (·.1) := (cells_addrs w (sk_x hsk)).symm
      have hnd1 : NDL ((M, om) :: (W, listOf (ws' ++ [v]).toArray nW) :: (rl, listOf rs.toArray nr) :: cellsLed w cs') := by
        refine ⟨⟨NE.gt lM.1, NE.gt lM.2.1, neAll_addrs hax ?_⟩, ⟨NE.gt lW.1, neAll_addrs hax ?_⟩, ?_⟩
        · rw [hR]; exact neAll_lt lM.2.2
        · rw [hR]; exact neAll_lt lW.2
        · rw [← hR] at hnd0
          exact NDL.addrs (by simp only [List.map_cons, hax]) hnd0.out
      rcases hRI.wv v (by simp) with ⟨sv, tv, rfl⟩ | ⟨j, ⟨q, hq, rfl⟩, hrj⟩
      · generalize hR' : cellsLed w cs' = R' at *
        simp only [NDL, NeAll, and_true] at hnd1
        refine hideG fun gP gK => ?_
        repeat (rename _ ∧ _ => hc; rcases hc with ⟨_, _⟩)
        refine gK ?_
        clear gK gP
        k_steps
        unfold Stop
        refine' Spec.use0 (thingsS_C w) ?B ?F ?X ?N ?T ?K ?_
        case B => assumption
        case F => assumption
        case X => assumption
        case N => assumption
        case T => assumption
        case K => rfl
        intro r9 ft9 h9 tk9 hP F9 N9 ha9
        obtain ⟨l9, c9, rfl, rfl⟩ := hP
        replace ha9 := apartL_of ha9
        dsimp only [List.cons_append, List.nil_append] at N9
        simp only [List.cons_append, List.nil_append, ApartL, NeAll, and_true] at ha9
        refine hideG fun gP gK => ?_
        repeat (rename _ ∧ _ => hc; rcases hc with ⟨_, _⟩)
        refine gK ?_
        clear gK gP
        k_steps
        unfold Stop
        refine ws2_end (news₂ := (M, om) :: (W, listOf ws'.toArray (nW + 1)) :: (rl, listOf rs.toArray nr) :: R') (n' := 3 * (cells.length - ms.length) + ws'.length) (by assumption) (by assumption) ?hs ?hn ?hJ
        case hs => exact fun p hp => by simp only [List.mem_cons] at hp ⊢; rcases hp with h | h | h | h <;> simp [h]
        case hn => omega
        case hJ => exact ⟨ws', _, om, ms, cs', by rw [hR'], by with_unfolding_all rfl, by with_unfolding_all rfl, hd, hsk, by simpa using hRI.pop_str (u := []) (by simp), hms, hml, hmk, rfl, by omega⟩
      · obtain ⟨c, hc, hcq⟩ : ∃ c, cs'[j]? = some c ∧ (c.x, c.v0) = q := by
          rw [← hsk] at hq
          simpa [sk] using hq
        subst hcq
        have hjl : j < cells.length := by
          have := (List.getElem?_eq_some_iff.mp hq).1
          simpa using this
        have hnum : c.x.num = ((j : Nat) : Int) + 1 := hg.num j _ hq
        have hsome : (valueAt (kvM ms) c.x.num).isSome = decide (j ∈ ms) := by rw [hnum]; exact kvM_mem
        have hpm := cells_perm w hc
        have N₂ := newsSub (b := (M, om) :: (W, listOf (ws' ++ [Value.ref c.x.a]).toArray nW) :: (rl, listOf rs.toArray nr) :: (cellLed w c ++ cellsLed w (cs'.eraseIdx j))) N₁ fun p hp => by
          simp only [List.mem_cons] at hp ⊢
          rcases hp with h | h | h | h
          · exact .inl h
          · exact .inr (.inl h)
          · exact .inr (.inr (.inl h))
          · exact .inr (.inr (.inr (hpm.mem_iff.mpr h)))
        have hnd2 : NDL ((M, om) :: (W, listOf (ws' ++ [Value.ref c.x.a]).toArray nW) :: (rl, listOf rs.toArray nr) :: (cellLed w c ++ cellsLed w (cs'.eraseIdx j))) := NDL.perm (((hpm.cons _).cons _).cons _) hnd1
        have hne3 : Kp (PairN [c.x.a, c.x.d, c.x.i]) := by
          have h3 := hnd2.2.2.2
          simp only [cellLed, arrLed, List.cons_append, List.nil_append, NDL, NeAll] at h3
          exact .mk ⟨⟨h3.1.1, h3.1.2.1, trivial⟩, ⟨h3.2.1.1, trivial⟩, trivial, trivial⟩
        clear N₁ hnd1 hnd0
        generalize hR' : cellsLed w (cs'.eraseIdx j) = R' at *
        simp only [cellLed, arrLed, List.cons_append, List.nil_append, NDL, NeAll, and_true] at hnd2
        dsimp only [cellLed, arrLed, List.cons_append, List.nil_append] at N₂
        refine hideG fun gP gK => ?_
        repeat (rename _ ∧ _ => hc; rcases hc with ⟨_, _⟩)
        refine gK ?_
        clear gK gP
        by_cases hjm : j ∈ ms
        · rw [decide_eq_true hjm] at hsome
          k_steps
          unfold Stop
          refine ws2_cont (news₂ := (M, om) :: (W, listOf ws'.toArray (nW + 1)) :: (rl, listOf rs.toArray nr) :: cellsLed w cs') (n' := 3 * (cells.length - ms.length) + ws'.length) (by assumption) (by assumption) ?hs ?hn ?hJ
          case hs =>
            intro p hp
            simp only [List.mem_cons] at hp ⊢
            rcases hp with h | h | h | h
            · simp only [h, true_or, or_true]
            · simp only [h, true_or, or_true]
            · simp only [h, true_or, or_true]
            · have h := hpm.mem_iff.mp h
              simp only [cellLed, arrLed, List.cons_append, List.nil_append, List.mem_cons] at h
              rcases h with h | h | h | h <;> simp only [h, true_or, or_true]
          case hn => omega
          case hJ => exact ⟨ws', _, om, ms, cs', rfl, by with_unfolding_all rfl, by with_unfolding_all rfl, hd, hsk, hRI.pop_met hinj hjm ⟨_, hq, rfl⟩, hms, hml, hmk, rfl, by omega⟩
        · rw [decide_eq_false hjm] at hsome
          have hms2 : (ms ++ [j]).Nodup := by
            rw [List.nodup_append]
            exact ⟨hms, by simp, by simp; exact fun a ha e => hjm (e ▸ ha)⟩
          have hml2 : ∀ i ∈ ms ++ [j], i < cells.length := by
            intro i hi
            rcases List.mem_append.mp hi with hi | hi
            · exact hml i hi
            · rw [List.mem_singleton.mp hi]; exact hjl
          have hlen2 := nodup_len _ _ hms2 hml2
          simp only [List.length_append, List.length_cons, List.length_nil] at hlen2
          k_steps
          unfold Stop
          refine' Spec.use (news := _) (things_C w (x := c.x) (mk := 1) (tmk := 554) (v0 := c.v0) hne3.out) ((M, o'k) :: (W, listOf ws'.toArray (nW + 1)) :: (rl, listOf rs.toArray nr) :: R') ?B ?F ?X ?N ?T ?K ?hs (apart_of ?ha) ?_
          case B => assumption
          case F => assumption
          case X => assumption
          case N => assumption
          case T => assumption
          case K => rfl
          case hs =>
            intro p hp
            simp only [arrLed, List.cons_append, List.nil_append, List.mem_cons] at hp ⊢
            rcases hp with h | h | h | h | h | h | h <;> simp only [h, true_or, or_true]
          case ha =>
            simp only [arrLed, List.cons_append, List.nil_append, ApartL, NeAll, and_true]
            (repeat' refine And.intro ?_ ?_) <;> first | assumption | (refine NE.symm ?_; assumption)
          intro r9 ft9 h9 tk9 hP F10 N10 _ _
          obtain ⟨rfl, rfl⟩ := hP
          dsimp only [arrLed, List.cons_append, List.nil_append] at N10
          k_steps
          unfold Stop
          refine ws2_end (news₂ := (M, o'k) :: (W, listOf (ws' ++ [c.v0, Value.str (Str.ofString "x") c.x.tx]).toArray (nW + 1 + 1)) :: (rl, listOf rs.toArray nr) :: cellsLed w (cs'.set j ⟨c.x, 1, 554, c.v0⟩)) (n' := 3 * (cells.length - (ms ++ [j]).length) + (ws' ++ [c.v0, Value.str (Str.ofString "x") c.x.tx]).length) (by assumption) (by assumption) ?hs ?hn ?hJ
          case hs =>
            have hpm2 := cells_perm_set w (c := ⟨c.x, 1, 554, c.v0⟩) (List.getElem?_eq_some_iff.mp hc).1
            rw [hR'] at hpm2
            intro p hp
            simp only [List.mem_cons] at hp ⊢
            rcases hp with h | h | h | h
            · simp only [h, true_or, or_true]
            · simp only [h, true_or, or_true]
            · simp only [h, true_or, or_true]
            · have h := hpm2.mem_iff.mp h
              simp only [cellLed, arrLed, List.cons_append, List.nil_append, List.mem_cons] at h
              rcases h with h | h | h | h <;> simp only [h, true_or, or_true]
          case hn => simp only [List.length_append, List.length_cons, List.length_nil]; omega
          case hJ =>
            refine ⟨_, _, o'k, ms ++ [j], cs'.set j ⟨c.x, 1, 554, c.v0⟩, rfl, by with_unfolding_all rfl, by with_unfolding_all rfl, ?_, (sk_set (d := ⟨c.x, 1, 554, c.v0⟩) hc rfl rfl).trans hsk, hRI.pop_new hinj hg hq, ?_, ?_, ?_, rfl, ?_⟩
            · rw [← kvM_new hjm, ← hnum]; exact hd'k
            · exact hms2
            · exact hml2
            · intro i d d' h1 h2
              by_cases hij : j = i
              · subst hij
                rw [List.getElem?_set_self (List.getElem?_eq_some_iff.mp hc).1] at h2
                obtain rfl := Option.some.inj h2
                exact ⟨fun _ => rfl, fun h => absurd (List.mem_append_right _ (List.mem_singleton.mpr rfl)) h⟩
              · rw [List.getElem?_set_ne hij] at h2
                have := hmk i d d' h1 h2
                refine ⟨fun h => ?_, fun h => this.2 fun h' => h (List.mem_append_left _ h')⟩
                rcases List.mem_append.mp h with h | h
                · exact this.1 h
                · exact absurd (List.mem_singleton.mp h).symm hij
            · simp only [List.length_append, List.length_cons, List.length_nil]; omega
theorem keeps_same {s : Shared} {n : Nat} : Keeps s { s with toks := n } := ⟨s.heap, n, rfl, fun _ _ e => e⟩
theorem keeps_refl {s : Shared} : Keeps s s := ⟨s.heap, s.toks, rfl, fun _ _ e => e⟩
theorem paired_len {α β : Type} {R : α → β → Prop} : ∀ {a : List α} {b : List β}, Paired R a b → a.length = b.length
  | _, _, .nil => rfl
  | _, _, .cons _ h => by rw [List.length_cons, List.length_cons, paired_len h]
theorem paired_right {α β : Type} {R : α → β → Prop} : ∀ {a : List α} {b : List β}, Paired R a b → ∀ y ∈ b, ∃ x ∈ a, R x y
  | _, _, .nil, _, h => nomatch h
  | _, _, .cons (a := x) r h, y, hy => by
    rcases List.mem_cons.mp hy with rfl | hy
    · exact ⟨x, .head _, r⟩
    · obtain ⟨z, hz, q⟩ := paired_right h y hy
      exact ⟨z, .tail _ hz, q⟩
theorem paired_left {α β : Type} {R : α → β → Prop} : ∀ {a : List α} {b : List β}, Paired R a b → ∀ x ∈ a, ∃ y ∈ b, R x y
  | _, _, .nil, _, h => nomatch h
  | _, _, .cons (b := y) r h, x, hx => by
    rcases List.mem_cons.mp hx with rfl | hx
    · exact ⟨y, .head _, r⟩
    · obtain ⟨z, hz, q⟩ := paired_left h x hx
      exact ⟨z, .tail _ hz, q⟩
/-- the tests and the element of a comprehension, over the ledger of the frame around it -/
structure Quiet (prog : Program) (w : World) (A : Around) (env : Env) (scope : Scope) (cl : List (Str × Addr)) (x : Str) (ifs : List Expr) (elt : Expr) (p : Value → Bool) (Fv : Value → Value → Prop) (h₀ : Heap) (L : Addr) (m : Str → Option Value) (news : Led) (vs : List Value) : Prop where
  tests : ∀ C v (s₃ : Shared) m₃ E', v ∈ vs → s₃.heap.Ns C m₃ → m₃ x = some v → Fr h₀ L s₃.heap m → News h₀ L s₃.heap news →
    wpAny (model prog w) A (forIn ifs true fun c r => if r = true then do let ok ← isTrue c (compEnvC scope cl C env) (eval c (compEnvC scope cl C env)); pure (ForInStep.yield ok) else pure (ForInStep.yield r))
      (fun ok s₄ => ok = p v ∧ Keeps s₃ s₄) E' s₃
  elt : ∀ C v (s₃ : Shared) m₃ E', v ∈ vs → p v = true → s₃.heap.Ns C m₃ → m₃ x = some v → Fr h₀ L s₃.heap m → News h₀ L s₃.heap news →
    wpAny (model prog w) A (eval elt (compEnvC scope cl C env)) (fun y s₄ => Fv v y ∧ Keeps s₃ s₄) E' s₃
section
variable {prog : Program} {w : World} {A : Around} {E : Value → Shared → Prop} {env : Env} {h₀ : Heap} {L : Addr}
theorem tests1 {s : Shared} {env' : Env} {c : Expr} {P : Bool → Shared → Prop} (h : wpAny (model prog w) A (isTrue c env' (eval c env')) P E s) :
    wpAny (model prog w) A (forIn [c] true fun c r => if r = true then do let ok ← isTrue c env' (eval c env'); pure (ForInStep.yield ok) else pure (ForInStep.yield r)) P E s := by
  rw [List.forIn_cons]
  refine wpAny_bind ?_
  rw [if_pos rfl]
  refine wpAny_bind (wpAny_mono h (fun ok s' x => wpAny_pure ?_) fun _ _ e => e)
  dsimp only
  rw [List.forIn_nil]
  exact wpAny_pure x
theorem comp_lift {s₁ : Shared} {m : Str → Option Value} {news : Led} {l : Addr} (F : Fr h₀ L s₁.heap m) (N : News h₀ L s₁.heap news) (h₃ : Heap)
    (hk : ∀ b o, b ∉ [s₁.heap.objs.size] → (s₁.heap.push { cls := .type "list_iterator", data := .fields #[.ref l, .int 0 0] }).get? b = some o → h₃.get? b = some o) : Fr h₀ L h₃ m ∧ News h₀ L h₃ news := by
  have old : ∀ b o, s₁.heap.get? b = some o → h₃.get? b = some o := fun b o e => hk b o (by
    simp only [List.mem_singleton]
    exact Nat.ne_of_lt (Heap.lt_size e)) (Heap.get?_push_of_some _ e)
  exact ⟨⟨F.ns.at' fun o e => old _ o e, fun b o e => old b o (F.keep b o e), F.above⟩, fun p hp => ⟨old _ _ (N p hp).1, (N p hp).2⟩⟩
theorem vs_eq {vs ws : List Value} (hl : ws.length = vs.toArray.size) (h : ∀ (j : Nat) (v : Value), ws[j]? = some v → vs.toArray[j]? = some v) : ws = vs := by
  apply List.ext_getElem?
  intro j
  by_cases hj : j < ws.length
  · have e : ws[j]? = some ws[j] := List.getElem?_eq_getElem hj
    have := h j _ e
    rw [e]
    simpa using this.symm
  · have h1 : ws[j]? = none := List.getElem?_eq_none (by omega)
    have h2 : vs[j]? = none := List.getElem?_eq_none (by rw [List.size_toArray] at hl; omega)
    rw [h1, h2]
theorem comp_L {s : Shared} {elt iter : Expr} {x : Str} {px : Pos} {ifs : List Expr} {scope : Scope} {pos : Pos} {Q : Value → Shared → Prop} (cl : List (Str × Addr)) (p : Value → Bool) (Fv : Value → Value → Prop)
    (hclos : closureFor scope env = pure cl) (hcell : ∀ y ∈ scope.names, y.2 ≠ .cell) (hkind : scope.kind = .function)
    (hnames : ∀ y ∈ scope.names, y.2 = .local → scope.names.lookup y.1 = some .local) (hx : scope.names.lookup x = some .local) (hh : A.handled = none)
    (h : wpAny (model prog w) A (eval iter env) (fun xv s₁ => ∃ (l : Addr) (vs : List Value) (c : Nat) (m : Str → Option Value) (news : Led), xv = .ref l ∧ Fr h₀ L s₁.heap m ∧ News h₀ L s₁.heap news ∧ (l, listOf vs.toArray c) ∈ news ∧ vs.length ≤ 1000 ∧
      Quiet prog w A env scope cl x ifs elt p Fv h₀ L m news vs ∧
      (∀ D h' tk c' (ys : List Value), Fr h₀ L h' m → News h₀ L h' ((D, listOf ys.toArray c') :: news) → NeAll D news → Paired Fv (vs.filter p) ys → Q (.ref D) { s₁ with heap := h', toks := tk })) E s)
    (hs : ∀ x, foldedSetIterable iter env x = pure x := by intro _; rfl) :
    wpAny (model prog w) A (eval (.ListComp elt [⟨.Name x px, iter, ifs, 0⟩] scope pos) env) Q E s := by
  refine wpAny_ListComp_free p Fv hclos hcell hkind hnames hx (wpAny_mono h (fun xv s₁ h₁ => ?_) fun _ _ e => e) hs
  obtain ⟨l, vs, c, m, news, rfl, F, N, hm, hn, hq, hQ⟩ := h₁
  have hls : s₁.heap.IsList l vs.toArray := ⟨_, (N _ hm).1, rfl, c, rfl⟩
  have hlt : l < s₁.heap.objs.size := Heap.lt_size (N _ hm).1
  have hne : l ≠ s₁.heap.objs.size := Nat.ne_of_lt hlt
  refine wpAny_pyIter_list hls ?_
  refine ⟨s₁.heap.objs.size, [s₁.heap.objs.size, l], [s₁.heap.objs.size], vs.toArray.size, _, _, rfl, Walks.list hh _ l hne vs.toArray, by rw [List.size_toArray, sizeLine_eq]; omega,
    ⟨⟨_, Heap.get?_push_size _ rfl, rfl, rfl⟩, hls.at fun o e => Heap.get?_push_of_some _ e⟩, ?_, ⟨?_, ?_⟩, ?_⟩
  · intro b hb
    rw [Heap.size_push]
    simp only [List.mem_cons, List.not_mem_nil, or_false] at hb
    rcases hb with rfl | rfl
    · exact Nat.lt_succ_self _
    · exact Nat.lt_succ_of_lt hlt
  · intro C i v s₃ m₃ E' _ hP hns hv hk _
    obtain ⟨F₃, N₃⟩ := comp_lift (l := l) F N s₃.heap hk
    exact hq.tests C v s₃ m₃ E' (List.mem_of_getElem? (by simpa using hP)) hns hv F₃ N₃
  · intro C i v s₃ m₃ E' _ hP hpv hns hv hk _
    obtain ⟨F₃, N₃⟩ := comp_lift (l := l) F N s₃.heap hk
    exact hq.elt C v s₃ m₃ E' (List.mem_of_getElem? (by simpa using hP)) hpv hns hv F₃ N₃
  · intro D h' tk ys ws hD hl hpl hlen hP hF hk
    obtain ⟨F₃, N₃⟩ := comp_lift (l := l) F N h' hk
    obtain rfl := vs_eq hlen hP
    obtain ⟨c', hc'⟩ := hpl
    have hDold : ∀ b o, s₁.heap.get? b = some o → b ≠ D := fun b o e q => by
      subst q
      have := Heap.get?_push_of_some { cls := .type "list_iterator", data := .fields #[.ref l, .int 0 0] } e
      simp only at hD this
      rw [hD] at this; cases this
    obtain ⟨oL, _, _, hoL, _⟩ := F.ns
    refine hQ D h' tk c' ys.toList F₃ (fun q hq => ?_) (neAll_of fun q hq e => hDold q.1 q.2 (N q hq).1 e.symm) hF
    rcases List.mem_cons.mp hq with rfl | hq
    · refine ⟨by simpa using hc', fun e => hDold L oL hoL e.symm, ?_⟩
      cases q : h₀.get? D with
      | none => rfl
      | some o => exact absurd rfl (hDold D o (F.keep D o q))
    · exact N₃ q hq
end
theorem keysDict {K : Type} [DecidableEq K] : ∀ {kvs : List (K × Value)} {k : K} {v : Value}, (kvs.map (·.1)).Nodup → ((k, v) ∈ kvs ↔ valueAt kvs k = some v) := by
  intro kvs k v hn
  constructor
  · intro h
    obtain ⟨i, hi⟩ := List.getElem?_of_mem h
    exact valueAt_of_get hn hi
  · intro h
    induction kvs with
    | nil => cases h
    | cons q r ih =>
      obtain ⟨a, b⟩ := q
      by_cases e : a = k
      · subst e
        have h0 : valueAt ((a, b) :: r) a = some b := valueAt_of_get hn (i := 0) rfl
        rw [h0] at h
        obtain rfl := Option.some.inj h
        exact .head _
      · refine .tail _ (ih (List.nodup_cons.mp hn).2 ?_)
        have : valueAt ((a, b) :: r) k = valueAt r k := by
          simp [valueAt, List.find?, e]
        rw [← this]; exact h
theorem hS_aux {prog : Program} {w : World} : ∀ (vs : List Value) (kvs : List (Str × Value)), vs.length = kvs.length → (∀ (j : Nat) (v : Value), vs[j]? = some v → ∃ (k : Str) (x : Value), kvs[j]? = some (k, x) ∧ (PySem.strKind prog w).is k v = true) → StrsAre vs (kvs.map (·.1))
  | [], [], _, _ => .nil
  | v :: vs, q :: r, hl, hv => by
    obtain ⟨k, x, e, hk⟩ := hv 0 v rfl
    simp only [List.getElem?_cons_zero, Option.some.injEq] at e
    subst e
    obtain ⟨t, rfl⟩ := Value.isStrOf_shape hk
    exact .cons _ _ (hS_aux vs r (by simpa using hl) fun j u hu => by simpa using hv (j + 1) u (by simpa using hu))
  | [], _ :: _, h, _ => by simp at h
  | _ :: _, [], h, _ => by simp at h
section
variable {prog : Program} {w : World} {A : Around} {E : Value → Shared → Prop} {s : Shared} {h₀ : Heap} {L d : Addr} {m : Str → Option Value} {news : Led} {o : Obj} {kvs : List (Str × Value)} {Q : Value → Shared → Prop}
theorem sorted_dict_L (lo : (d == sysModules) = false) (hh : A.handled = none) (F : Fr h₀ L s.heap m) (N : News h₀ L s.heap news) (hp : (d, o) ∈ news) (hd : o.IsDictOf (PySem.strKind prog w) kvs) (hn : kvs.length ≤ 60)
    (h : ∀ D h' tk (vs : List Value) (ss : List Str) e, Fr h₀ L h' m → News h₀ L h' ((D, listOf vs.toArray e) :: news) → NeAll D news → StrsAre vs ss → ss.Perm (kvs.map (·.1)) → Q (.ref D) { s with heap := h', toks := tk }) :
    wpAny (model prog w) A (call (.builtin "sorted") [.ref d]) Q E s := by
  obtain ⟨ep, hat⟩ := (kda_dict N hp hd).dictAt
  refine kdu_sorted (kdl_dict (knd := PySem.strKind prog w) (kvs := kvs) (ep := ep) lo) hh F N hat (kdl_size (by omega)) fun D h' tk vs F' N' l1 hl hv => ?_
  have hz := N' (D, listOf vs.toArray 0) (.head _)
  have hS : StrsAre vs (kvs.map (·.1)) := hS_aux vs kvs hl hv
  refine wpAny_call_entry slot_list_sort ⟨_, hz.1, rfl⟩ entry_list_sort (list_sort_treeK strKind_oneLt hz.1 hS.keysOf (fun v₁ v₂ rest e => keyKind_strs (by rw [← e]; exact hS)) (by rw [hl]; omega) fun st' a1 a2 => ⟨_, rfl, ?_⟩) (args_list_sort _)
  obtain ⟨ss', h1, h2, _⟩ := sorted_out_str hS a1 a2
  obtain ⟨e, he⟩ := sortedHeap_at (out := (arrOf st').map (·.2)) hz.1
  have old : ∀ b o, b ≠ D → h'.get? b = some o → (sortedHeap h' D vs ((arrOf st').map (·.2))).get? b = some o := fun b o hb q => by
    rw [sortedHeap_old hb (Heap.lt_size q)]; exact q
  obtain ⟨oL, x1, x2, hL, x3⟩ := F'.ns
  refine h D _ tk _ ss' e ⟨⟨oL, x1, x2, old _ _ (fun q => hz.2.1 q.symm) hL, x3⟩, fun b o q => old _ _ (fun q' => by subst q'; rw [hz.2.2] at q; cases q) (F'.keep b o q), F'.above⟩ (fun q hq => ?_) (neAll_of fun q hq q' => by have := l1 q hq; rw [q'] at this; exact Nat.lt_irrefl _ this) h1 h2
  rcases List.mem_cons.mp hq with rfl | hq
  · exact ⟨by simp only [Array.toArray_toList]; exact he, hz.2⟩
  · exact ⟨old _ _ (Nat.ne_of_lt (l1 q hq)) (N' q (.tail _ hq)).1, (N' q (.tail _ hq)).2⟩
end
theorem roots_C (w : World) {wi wd store aside H : Addr} {ks : Nat → Tok} {V : Nat → Value} {made : Int} {tm : Tok} {os : Obj} {kvs : List (Str × Value)}
  (hos : SD w os kvs) (hn : kvs.length ≤ 60) (hd : (kvs.map (·.1)).Nodup) (lo : (store == sysModules) = false) (hne : PairN [wi, wd, store]) :
  Spec w 305 16 280 [.ref wi] [(wi, instObj 231 wd), (wd, dictOf (wEs w ks V store aside H made tm) 26), (store, os)] (fun r ft => ∃ (l : Addr) (ys : List Value) (n : Nat), r = .ref l ∧ ft = [(l, listOf ys.toArray n), (wi, instObj 231 wd), (wd, dictOf (wEs w ks V store aside H made tm) 26), (store, os)] ∧
    NeL l [wi, wd, store] ∧ ys.length = kvs.length ∧ ∀ y, y ∈ ys ↔ ∃ k, valueAt kvs k = some y) := by
  k_with_none
  k_with "eval ListComp" => (k_here; refine stop_ ?_)
  k_with "eval Name" => (k_here; k_dflt (refine' nameX_B ?zF ?zX ?zT ?ze ?zv ?zn ?_ ?za ?zb; (case zb => rfl); (case za => rfl); (case zF => k_asm); (case zX => k_asm); (case zT => k_asm); (case ze => k_is); (case zv => boot_by_name); (case zn => decide); k_whole))
  k_with "eval Name" => (k_here; k_inBlock; k_dflt (refine' wpAny_Name (wpAny_loadName_local ?za ?zb ?zn ?zv ?_) ?zd; (case za => rfl); (case zb => rfl); (case zn => assumption); (case zv => assumption); (case zd => decide)))
  k_with "eval Name" => (k_here; k_inBlock; k_dflt (refine' wpAny_Name (wpAny_loadName_cell ?za ?zb ?zc ⟨_, ?zg, ?ze⟩ ?_) ?zd; (case za => rfl); (case zb => rfl); (case zc => rfl); (case zg => exact News.get (by k_asm) (by k_mem)); (case ze => k_asm); (case zd => decide)))
  k_with "call builtin:sorted" => (k_here; refine stop_ ?_)
  intro cn cs a ccd cl outer A₀ base h₀ L m s Q E p loose mean mg mb rest B F X N T hk hap hret
  revert X; k_fill; intro X
  dsimp only [SD] at hos
  simp only [PairN, NeL, and_true] at hne
  refine hideG fun gP gK => ?_
  repeat (rename _ ∧ _ => hc; rcases hc with ⟨_, _⟩)
  refine gK ?_
  clear gK gP
  refine wpAny_call ?_
  k_dflt (refine' foot_codeC _ B F X N T ?kA ?kF ?kK hap ?k6 ?k7 ?k8 ?k9 ?kB ?kD ?_ hret ?c2 ?c3 ?c4; (case kA => exact rfl); (case kF => exact rfl); (case kK => exact hk); (case k6 => k_is); (case k7 => k_is); (case k8 => k_room); (case k9 => exact BindsTo.of_eq rfl); (case kB => exact rfl); (case kD => decide +kernel); (case c2 => exact rfl); (case c3 => exact rfl); (case c4 => exact rfl))
  clear hret N F X T B hap
  intro g' L' h' tk' cells' F' N' Y' B' X' T' l1
  (try k_lt l1)
  k_cells Y'
  (try simp only [List.cons_append, List.nil_append] at N')
  (try dsimp only)
  (try k_lift B')
  (try k_fold)
  k_steps
  unfold Stop
  refine' comp_L (h₀ := g') (L := L') ?cl (fun _ => true) (fun v y => ∃ n t, v = Value.str n t ∧ valueAt kvs n = some y) ?hclos ?hcell ?hkind ?hnames ?hx ?hh ?_ ?hs
  case hclos => with_unfolding_all rfl
  case hcell => decide
  case hkind => with_unfolding_all rfl
  case hnames => decide
  case hx => with_unfolding_all rfl
  case hh => rfl
  case hs => intro _; with_unfolding_all rfl
  k_steps
  unfold Stop
  k_dflt (refine' sorted_dict_L ?lo ?hh ?F ?N ?p ?d ?n ?_; (case lo => assumption); (case hh => rfl); (case F => k_asm); (case N => k_asm); (case p => k_mem); (case d => assumption); (case n => assumption))
  intro D h₁ tk₁ vs ss e F₁ N₁ ha hS hP
  have hlen : vs.length = kvs.length := by rw [hS.length, hP.length_eq, List.length_map]
  refine ⟨D, vs, e, _, _, rfl, F₁, N₁, .head _, by omega, ⟨?q1, ?q2⟩, ?q3⟩
  case q1 =>
    intro C v s₃ m₃ E' hv hns hx F₃ N₃
    rw [List.forIn_nil]
    exact wpAny_pure ⟨rfl, keeps_refl⟩
  case q2 =>
    intro C v s₃ m₃ E' hv hp hns hx F₃ N₃
    obtain ⟨n, t, rfl⟩ := hS.all v hv
    have hn1 : n ∈ ss := by rw [← hS.strs]; exact List.mem_map.mpr ⟨_, hv, rfl⟩
    obtain ⟨⟨k, y⟩, hk1, hk2⟩ := List.mem_map.mp (hP.mem_iff.mp hn1)
    simp only at hk2
    subst hk2
    have hy := (keysDict hd).mp hk1
    k_steps
    refine wpAny_getItem_of (knd := PySem.strKind PySem.Challenge.rw_rh0226_01.prog w) (k := k) ?u1 (kda_dict N₃ (by k_mem) hos).mapOf hy ⟨⟨_, _, rfl, hy⟩, keeps_same⟩
    case u1 => exact strKind_is _ _ _ _
  case q3 =>
    intro D₂ h₂ tk₂ c₂ ys F₂ N₂ ha₂ hpair
    rw [List.filter_eq_self.mpr (fun _ _ => rfl)] at hpair
    refine FootEnd.intro (foot' := [(D₂, listOf ys.toArray c₂), (wi, instObj 231 wd), (wd, dictOf (wEs w ks V store aside H made tm) 26), (store, os)]) (by assumption) (newsSub (by assumption) (SubL.mem ?h1)) ⟨_, ys, _, rfl, rfl, ?h0, by rw [← paired_len hpair, hlen], fun y => ⟨fun hy => ?z1, fun ⟨k, hk⟩ => ?z2⟩⟩
    case h1 => k_subL
    case h0 =>
      simp only [NeAll, and_true] at ha₂
      exact ⟨ha₂.2.2.1, ha₂.2.2.2.1, ha₂.2.2.2.2, trivial⟩
    case z1 =>
      obtain ⟨v, hv, n, t, rfl, hx⟩ := paired_right hpair y hy
      exact ⟨n, hx⟩
    case z2 =>
      have h1 : k ∈ ss := hP.mem_iff.mpr (List.mem_map.mpr ⟨_, (keysDict hd).mpr hk, rfl⟩)
      rw [← hS.strs] at h1
      obtain ⟨v, hv, e1⟩ := List.mem_map.mp h1
      obtain ⟨n, t, rfl⟩ := hS.all v hv
      obtain ⟨y', hy', n', t', e2, hx⟩ := paired_left hpair _ hv
      obtain ⟨rfl, rfl⟩ := Value.str.inj e2
      simp only [strOf] at e1
      subst e1
      rw [hx] at hk
      obtain rfl := Option.some.inj hk
      exact hy'
section
variable {prog : Program} {w : World} {A : Around} {E : Value → Shared → Prop} {s : Shared} {env : Env} {h₀ : Heap} {x : Str} {body : List Stmt} {Q : Flow → Shared → Prop}
theorem unr_mono {L : Addr} {I : Addr} {it : Obj} {s₁ : Shared} {R R' : (Str → Option Value) → Led → Prop} (h : ∀ m n, R m n → NeAll I n → R' m n) {f : Flow} {s₂ : Shared} (p : UnrPost h₀ L s₁ I it R Q f s₂) : UnrPost h₀ L s₁ I it R' Q f s₂ := by
  cases f with
  | ret v => exact p
  | brk => exact p
  | next =>
    obtain ⟨h', tk, m', n', e, F', N', o, r⟩ := p
    exact ⟨h', tk, m', n', e, F', N', o, h _ _ r (neAll_of fun q hq e => o q hq e.symm)⟩
  | cont =>
    obtain ⟨h', tk, m', n', e, F', N', o, r⟩ := p
    exact ⟨h', tk, m', n', e, F', N', o, h _ _ r (neAll_of fun q hq e => o q hq e.symm)⟩
theorem listRest_J {I : Addr} {lp : Addr × Obj} (J : List Value → (Str → Option Value) → Led → Prop)
    (turn : ∀ v r m news it h tk, it.cls = .type "list_iterator" → J (v :: r) m news → lp ∈ news → NeAll I news → Fr h₀ env.locals h (fun y => if y = x then some v else m y) → News h₀ env.locals h ((I, it) :: news) →
      wpAny (model prog w) A (execs body env) (UnrPost h₀ env.locals { s with heap := h, toks := tk } I it (fun m' n' => lp ∈ n' ∧ J r m' n') Q) E { s with heap := h, toks := tk })
    (done : ∀ m news h tk, J [] m news → lp ∈ news → Fr h₀ env.locals h m → News h₀ env.locals h news → Q .next { s with heap := h, toks := tk }) :
    ∀ vs m news, J vs m news → lp ∈ news → NeAll I news → ListRest prog w A E h₀ env x body Q s I lp vs m news
  | [], m, news, hJ, hl, _ => fun h tk F N => done m news h tk hJ hl F N
  | v :: r, m, news, hJ, hl, hn => fun it h tk hc F N =>
    wpAny_mono (turn v r m news it h tk hc hJ hl hn F N) (fun f s₂ p => unr_mono (fun m' n' q hn' => ⟨q.1, listRest_J J turn done r m' n' q.2 q.1 hn'⟩) p) fun _ _ e => e
theorem iter_L {ax : Addr} {vs : List Value} {c : Nat} {m₀ : Str → Option Value} {news : Led} (J : List Value → (Str → Option Value) → Led → Prop)
    (hh : A.handled = none) (F : Fr h₀ env.locals s.heap m₀) (N : News h₀ env.locals s.heap news) (hm : (ax, listOf vs.toArray c) ∈ news) (h0 : J vs m₀ news)
    (turn : ∀ I v r m news it h tk, it.cls = .type "list_iterator" → J (v :: r) m news → (ax, listOf vs.toArray c) ∈ news → NeAll I news → Fr h₀ env.locals h (fun y => if y = x then some v else m y) → News h₀ env.locals h ((I, it) :: news) →
      wpAny (model prog w) A (execs body env) (UnrPost h₀ env.locals { s with heap := h, toks := tk } I it (fun m' n' => (ax, listOf vs.toArray c) ∈ n' ∧ J r m' n') Q) E { s with heap := h, toks := tk })
    (done : ∀ m news h tk, J [] m news → (ax, listOf vs.toArray c) ∈ news → Fr h₀ env.locals h m → News h₀ env.locals h news → Q .next { s with heap := h, toks := tk }) :
    wpAny (model prog w) A (pyIter (.ref ax)) (fun it s₂ => LoopAtV prog w A h₀ env x body Q E it s₂) E s :=
  iter_listUnr hh F N hm rfl rfl fun I hI => listRest_J J (turn I) done vs m₀ news h0 hm (neAll_of fun q hq e => Nat.lt_irrefl I (by have := hI q hq; rw [← e] at this; exact this))
theorem rangeRest_J {I : Addr} {a : Int} {n : Nat} (J : Nat → (Str → Option Value) → Led → Prop)
    (turn : ∀ i m news t it h tk, it.cls = .type "range_iterator" → i < n → J i m news → NeAll I news → Fr h₀ env.locals h (fun y => if y = x then some (.int (a + (i : Int)) t) else m y) → News h₀ env.locals h ((I, it) :: news) →
      wpAny (model prog w) A (execs body env) (UnrPost h₀ env.locals { s with heap := h, toks := tk } I it (fun m' n' => J (i + 1) m' n') Q) E { s with heap := h, toks := tk })
    (done : ∀ m news h tk, J n m news → Fr h₀ env.locals h m → News h₀ env.locals h news → Q .next { s with heap := h, toks := tk }) :
    ∀ k i m news, i + k = n → J i m news → NeAll I news → RangeRest prog w A E h₀ env x body Q s I a n k i m news
  | 0, i, m, news, hi, hJ, _ => fun h tk F N => done m news h tk (by rw [← hi]; exact hJ) F N
  | k + 1, i, m, news, hi, hJ, hn => fun t h tk F N =>
    wpAny_mono (turn i m news t _ h tk rfl (by omega) hJ hn F N) (fun f s₂ p => unr_mono (fun m' n' q hn' => rangeRest_J J turn done k (i + 1) m' n' (by omega) q hn') p) fun _ _ e => e
theorem iter_R {r : Addr} {b₀ : Int} {t₀ u₀ v₀ : Tok} {n : Nat} {m₀ : Str → Option Value} {news : Led} (J : Nat → (Str → Option Value) → Led → Prop)
    (hh : A.handled = none) (hr : IsRange s.heap r 0 b₀ 1 t₀ u₀ v₀) (hb : b₀ = (n : Int)) (hn : n ≤ 1000) (F : Fr h₀ env.locals s.heap m₀) (N : News h₀ env.locals s.heap news) (h0 : J 0 m₀ news)
    (turn : ∀ I i m news t it h tk, it.cls = .type "range_iterator" → i < n → J i m news → NeAll I news → Fr h₀ env.locals h (fun y => if y = x then some (.int (0 + (i : Int)) t) else m y) → News h₀ env.locals h ((I, it) :: news) →
      wpAny (model prog w) A (execs body env) (UnrPost h₀ env.locals { s with heap := h, toks := tk } I it (fun m' n' => J (i + 1) m' n') Q) E { s with heap := h, toks := tk })
    (done : ∀ m news h tk, J n m news → Fr h₀ env.locals h m → News h₀ env.locals h news → Q .next { s with heap := h, toks := tk }) :
    wpAny (model prog w) A (pyIter (.ref r)) (fun it s₂ => LoopAtV prog w A h₀ env x body Q E it s₂) E s := by
  subst hb
  refine iter_rangeUnr (n := n) hh hr ?_ ?_ F N fun I hI => rangeRest_J J (turn I) done n 0 m₀ news (by omega) h0 (neAll_of fun q hq e => Nat.lt_irrefl I (by have := hI q hq; rw [← e] at this; exact this))
  · exact small_one (by omega) (by omega) (by omega) (by omega)
  · exact rangeSize_nat _ _
end
theorem apartL_flip {a b : Led} (h : ApartL a b) : ApartL b a := apartL_of fun p hp q hq e => apart_of h q hq p hp e.symm
noncomputable def hasMark (cs : List Cell) (k : Int) (v : Value) : Bool := @decide (∃ (j : Nat) (c : Cell), cs[j]? = some c ∧ v = Value.ref c.x.a ∧ c.mrk = k) (Classical.propDecidable _)
theorem hasMark_at {cs : List Cell} {k : Int} {j : Nat} {c : Cell} (hi : Inj (sk cs)) (hc : cs[j]? = some c) : hasMark cs k (.ref c.x.a) = decide (c.mrk = k) := by
  unfold hasMark
  by_cases h : c.mrk = k
  · rw [decide_eq_true h, @decide_eq_true _ (Classical.propDecidable _)]
    exact ⟨j, c, hc, rfl, h⟩
  · rw [decide_eq_false h, @decide_eq_false _ (Classical.propDecidable _)]
    rintro ⟨i, d, hd, e, hk⟩
    have : j = i := hi j i (c.x, c.v0) (d.x, d.v0) (by simp [sk, hc]) (by simp [sk, hd]) (Value.ref.inj e)
    subst this
    rw [hc] at hd
    obtain rfl := Option.some.inj hd
    exact h hk
theorem paired_eq {α : Type} : ∀ {a b : List α}, Paired (fun v y => y = v) a b → b = a
  | _, _, .nil => rfl
  | _, _, .cons h r => by rw [h, paired_eq r]
theorem paired_filter {α β : Type} {R : α → β → Prop} {p : α → Bool} {q : β → Bool} : ∀ {a : List α} {b : List β}, Paired R a b → (∀ x ∈ a, ∀ y, R x y → p x = q y) → Paired R (a.filter p) (b.filter q)
  | _, _, .nil, _ => .nil
  | _, _, .cons (a := x) (b := y) h r, hp => by
    have e := hp x (.head _) y h
    have ih := paired_filter r fun z hz => hp z (.tail _ hz)
    rw [List.filter_cons, List.filter_cons, ← e]
    cases p x
    · exact ih
    · exact .cons h ih
theorem filter_split {α : Type} (p : α → Bool) : ∀ l : List α, (l.filter fun x => !p x).length + (l.filter p).length = l.length
  | [] => rfl
  | x :: r => by
    have ih := filter_split p r
    rw [List.filter_cons, List.filter_cons]
    cases p x <;> simp <;> omega
noncomputable def pRch (inner : List Int) (rts : List Nat) (j : Nat) : Bool := @decide (Rch inner rts j) (Classical.propDecidable _)
theorem pRch_spec {inner : List Int} {rts : List Nat} {j : Nat} : pRch inner rts j = true ↔ Rch inner rts j := by
  unfold pRch
  exact @decide_eq_true_iff _ (Classical.propDecidable _)
theorem at_cell {cs : List Cell} {S : List (Arr × Value)} {j : Nat} {v : Value} (h : sk cs = S) (ha : At S j v) : ∃ c, cs[j]? = some c ∧ v = Value.ref c.x.a := by
  obtain ⟨q, hq, rfl⟩ := ha
  rw [← h] at hq
  obtain ⟨c, hc, rfl⟩ : ∃ c, cs[j]? = some c ∧ (c.x, c.v0) = q := by simpa [sk] using hq
  exact ⟨c, hc, rfl⟩
noncomputable abbrev collLed (w : World) (mr H wi wd store aside : Addr) (nm nh : Nat) (hs : List Value) (ks : Nat → Tok) (V : Nat → Value) (made : Int) (tm : Tok) (os : Obj) (cells : List Cell) : Led :=
  (mr, listOf #[] nm) :: (H, listOf hs.toArray nh) :: (wi, instObj 231 wd) :: (wd, dictOf (wEs w ks V store aside H made tm) 26) :: (store, os) :: cellsLed w cells
theorem collect_C (w : World) {mr H wi wd store aside : Addr} {nm nh : Nat} {hs : List Value} {ks : Nat → Tok} {V : Nat → Value} {made : Int} {tm : Tok} {os : Obj} {cells : List Cell} {kvs : List (Str × Value)} {inner : List Int} {rts hl : List Nat}
  (hcl : cells.length ≤ 20) (hnd : NDL (collLed w mr H wi wd store aside nm nh hs ks V made tm os cells)) (hg : GG (sk cells) inner) (hinj : Inj (sk cells))
  (hos : SD w os kvs) (hkn : kvs.length ≤ 20) (hkd : (kvs.map (·.1)).Nodup) (lo : (store == sysModules) = false)
  (hst1 : ∀ k y, valueAt kvs k = some y → (∃ s t, y = Value.str s t) ∨ ∃ j ∈ rts, At (sk cells) j y) (hst2 : ∀ j ∈ rts, ∃ k y, valueAt kvs k = some y ∧ At (sk cells) j y)
  (hhl : Paired (At (sk cells)) hl hs) (hln : hl.length ≤ 20) :
  Spec w 304 13 285 [.ref wi, .ref mr] (collLed w mr H wi wd store aside nm nh hs ks V made tm os cells) (fun r ft => ∃ (g H' : Addr) (gs hs' : List Value) (ng nh' : Nat) (cs' : List Cell) (p : Nat → Bool), r = .ref g ∧
    ft = (g, listOf gs.toArray ng) :: (H', listOf hs'.toArray nh') :: (wi, instObj 231 wd) :: (wd, dictOf (wEs w ks V store aside H' made tm) 26) :: (store, os) :: cellsLed w cs' ∧ NDL ft ∧ gs.length ≤ 20 ∧ sk cs' = sk cells ∧
    (∀ j, p j = true ↔ Rch inner rts j) ∧ Paired (At (sk cells)) (hl.filter p) hs' ∧ gs.length + (hl.filter p).length = hl.length) := by
  k_with_none
  k_with "eval ListComp" => (k_here; refine stop_ ?_)
  k_with "eval Name" => (k_here; k_dflt (refine' nameX_B ?zF ?zX ?zT ?ze ?zv ?zn ?_ ?za ?zb; (case zb => rfl); (case za => rfl); (case zF => k_asm); (case zX => k_asm); (case zT => k_asm); (case ze => k_is); (case zv => boot_by_name); (case zn => decide); k_whole))
  k_with "eval Name" => (k_here; k_inBlock; k_dflt (refine' wpAny_Name (wpAny_loadName_local ?za ?zb ?zn ?zv ?_) ?zd; (case za => rfl); (case zb => rfl); (case zn => assumption); (case zv => assumption); (case zd => decide)))
  k_with "eval Name" => (k_here; k_inBlock; k_dflt (refine' wpAny_Name (wpAny_loadName_cell ?za ?zb ?zc ⟨_, ?zg, ?ze⟩ ?_) ?zd; (case za => rfl); (case zb => rfl); (case zc => rfl); (case zg => exact News.get (by k_asm) (by k_mem)); (case ze => k_asm); (case zd => decide)))
  k_with "exec For Name Attribute cons nil" => (k_here; refine stop_ ?_)
  k_with "call ref" => (k_here; refine stop_ ?_)
  k_with "binaryOp Add ref ref" => (k_here; refine stop_ ?_)
  k_with "Exists" => (refine stop_ ?_)
  k_with "pyIter ref" => (refine stop_ ?_)
  k_with "UnrPost" => (refine stop_ ?_)
  k_with "call builtin:sorted" => (k_here; refine stop_ ?_)
  intro cn cs a ccd cl outer A₀ base h₀ L m s Q E p loose mean mg mb rest B F X N T hk hap hret
  revert X; k_fill; intro X
  dsimp only [SD] at hos
  have hnd0 := Kp.mk hnd
  have hS := Kp.mk hst1
  have hS2 := Kp.mk hst2
  dsimp only [collLed] at *
  generalize hR : cellsLed w cells = R at *
  simp only [NDL, NeAll, and_true] at hnd
  refine hideG fun gP gK => ?_
  repeat (rename _ ∧ _ => hc; rcases hc with ⟨_, _⟩)
  refine gK ?_
  clear gK gP
  refine wpAny_call ?_
  k_dflt (refine' foot_code _ B F X N T ?kA ?kF ?kK hap ?k6 ?k7 ?k8 ?k9 ?kB ?_ hret ?c2 ?c3 ?c4 ?c5; (case kA => exact rfl); (case kF => exact rfl); (case kK => exact hk); (case k6 => k_is); (case k7 => k_is); (case k8 => k_room); (case k9 => exact BindsTo.of_eq rfl); (case c5 => decide); (case kB => exact locs rfl); (case c2 => exact rfl); (case c3 => exact rfl); (case c4 => exact rfl))
  clear hret N F X T B hap
  intro g' L' h' F' N' B' X' T'
  k_steps
  unfold Stop
  with_unfolding_all refine' For_invVF F' ?k1 ?k2 ?_
  case k1 => exact rfl
  case k2 => exact rfl
  k_whole
  k_steps
  unfold Stop
  refine iter_L (vs := hs) (c := nh) (fun r mm nx => ∃ (cs' : List Cell) (pre post : List Nat), nx = (mr, listOf #[] nm) :: (H, listOf hs.toArray nh) :: (wi, instObj 231 wd) :: (wd, dictOf (wEs w ks V store aside H made tm) 26) :: (store, os) :: cellsLed w cs' ∧
    mm (Str.ofString "world") = some (.ref wi) ∧ mm (Str.ofString "more_roots") = some (.ref mr) ∧ sk cs' = sk cells ∧ hl = pre ++ post ∧ Paired (At (sk cells)) post r ∧ ∀ j ∈ pre, ∀ c : Cell, cs'[j]? = some c → c.mrk = 0) rfl F' N' (by k_mem) ?hJ ?turn ?done
  case hJ => exact ⟨cells, [], hl, by rw [hR], rfl, rfl, rfl, rfl, hhl, fun j h => nomatch h⟩
  case turn =>
    clear F' N'
    intro I v r mm nx it h₁ tk₁ hit hJ₁ _ hI F₁ N₁
    obtain ⟨cs', pre, post, rfl, hm1, hm2, hsk, hpp, hpr, hz⟩ := hJ₁
    cases hpr with
    | cons hav hpr =>
    rename_i j post
    have F₂ : Fr g' L' h₁ (fun y => if y = Str.ofString "holder" then some v else if y = Str.ofString "world" then some (Value.ref wi) else if y = Str.ofString "more_roots" then some (Value.ref mr) else mm y) := by
      have e : (fun y => if y = Str.ofString "holder" then some v else if y = Str.ofString "world" then some (Value.ref wi) else if y = Str.ofString "more_roots" then some (Value.ref mr) else mm y) = fun y => if y = Str.ofString "holder" then some v else mm y := by
        funext y
        by_cases h0 : y = Str.ofString "holder"
        · simp only [h0, if_true]
        · by_cases h1 : y = Str.ofString "world"
          · subst h1; with_unfolding_all exact hm1.symm
          · by_cases h2 : y = Str.ofString "more_roots"
            · subst h2; with_unfolding_all exact hm2.symm
            · simp only [h0, h1, h2, if_false]
      rw [e]; exact F₁
    clear F₁
    have hax : (cellsLed w cells).map (·.1) = (cellsLed w cs').map (·.1) := (cells_addrs w (sk_x hsk)).symm
    have hnd1 : NDL ((I, it) :: (mr, listOf #[] nm) :: (H, listOf hs.toArray nh) :: (wi, instObj 231 wd) :: (wd, dictOf (wEs w ks V store aside H made tm) 26) :: (store, os) :: cellsLed w cs') := by
      refine ⟨hI, ?_⟩
      exact NDL.addrs (by simp only [List.map_cons, ← hR, hax]) hnd0.out
    obtain ⟨q, hq, rfl⟩ := hav
    obtain ⟨c, hc, hcq⟩ : ∃ c, cs'[j]? = some c ∧ (c.x, c.v0) = q := by
      rw [← hsk] at hq
      simpa [sk] using hq
    subst hcq
    have hpm := cells_perm w hc
    have N₂ := newsSub (b := (I, it) :: (mr, listOf #[] nm) :: (H, listOf hs.toArray nh) :: (wi, instObj 231 wd) :: (wd, dictOf (wEs w ks V store aside H made tm) 26) :: (store, os) :: (cellLed w c ++ cellsLed w (cs'.eraseIdx j))) N₁ fun p hp => by
      simp only [List.mem_cons] at hp ⊢
      rcases hp with h | h | h | h | h | h | h <;> first | simp only [h, true_or, or_true] | skip
      simp only [hpm.mem_iff.mpr h, or_true]
    have hnd2 : NDL ((I, it) :: (mr, listOf #[] nm) :: (H, listOf hs.toArray nh) :: (wi, instObj 231 wd) :: (wd, dictOf (wEs w ks V store aside H made tm) 26) :: (store, os) :: (cellLed w c ++ cellsLed w (cs'.eraseIdx j))) := NDL.perm ((((((hpm.cons _).cons _).cons _).cons _).cons _).cons _) hnd1
    have hI0 := Kp.mk hI
    clear N₁ hnd1 hI
    generalize hR' : cellsLed w (cs'.eraseIdx j) = R' at *
    simp only [cellLed, arrLed, List.cons_append, List.nil_append, NDL, NeAll, and_true] at hnd2
    dsimp only [cellLed, arrLed, List.cons_append, List.nil_append] at N₂
    refine hideG fun gP gK => ?_
    repeat (rename _ ∧ _ => hc; rcases hc with ⟨_, _⟩)
    refine gK ?_
    clear gK gP
    k_steps
    unfold Stop
    have hsk2 : sk (cs'.set j ⟨c.x, 0, 552, c.v0⟩) = sk cells := (sk_set (d := ⟨c.x, 0, 552, c.v0⟩) hc rfl rfl).trans hsk
    have hpm2 := cells_perm_set w (c := ⟨c.x, 0, 552, c.v0⟩) (List.getElem?_eq_some_iff.mp hc).1
    rw [hR'] at hpm2
    refine UnrEnd.intro (by assumption) (by assumption) ((mr, listOf #[] nm) :: (H, listOf hs.toArray nh) :: (wi, instObj 231 wd) :: (wd, dictOf (wEs w ks V store aside H made tm) 26) :: (store, os) :: cellsLed w (cs'.set j ⟨c.x, 0, 552, c.v0⟩)) ?sub ?off ⟨by simp only [List.mem_cons, true_or, or_true], _, pre ++ [j], post, rfl, by with_unfolding_all rfl, by with_unfolding_all rfl, hsk2, by rw [hpp]; simp, hpr, ?z⟩
    case sub =>
      intro p hp
      simp only [List.mem_cons] at hp ⊢
      rcases hp with h | h | h | h | h | h | h <;> first | simp only [h, true_or, or_true] | skip
      have h := hpm2.mem_iff.mp h
      simp only [cellLed, arrLed, List.cons_append, List.nil_append, List.mem_cons] at h
      rcases h with h | h | h | h <;> simp only [h, true_or, or_true]
    case off =>
      exact NeAll.mem (neAll_addrs (by simp only [List.map_cons]; rw [cells_addrs w (sk_x (hsk2.trans hsk.symm))]) hI0.out)
    case z =>
      intro i hi d hd
      by_cases hij : j = i
      · subst hij
        rw [List.getElem?_set_self (List.getElem?_eq_some_iff.mp hc).1] at hd
        obtain rfl := Option.some.inj hd
        rfl
      · rw [List.getElem?_set_ne hij] at hd
        rcases List.mem_append.mp hi with h | h
        · exact hz i h d hd
        · exact absurd (List.mem_singleton.mp h).symm hij
  case done =>
    intro mm nx h₁ tk₁ hJ₁ _ F₁ N₁
    obtain ⟨cs', pre, post, rfl, hm1, hm2, hsk, hpp, hpr, hz⟩ := hJ₁
    clear F' N'
    have F₂ : Fr g' L' h₁ (fun y => if y = Str.ofString "world" then some (Value.ref wi) else if y = Str.ofString "more_roots" then some (Value.ref mr) else mm y) := by
      have e : (fun y => if y = Str.ofString "world" then some (Value.ref wi) else if y = Str.ofString "more_roots" then some (Value.ref mr) else mm y) = mm := by
        funext y
        by_cases h1 : y = Str.ofString "world"
        · subst h1; with_unfolding_all exact hm1.symm
        · by_cases h2 : y = Str.ofString "more_roots"
          · subst h2; with_unfolding_all exact hm2.symm
          · simp only [h1, h2, if_false]
      rw [e]; exact F₁
    clear F₁
    have hpe : hl = pre := by
      cases hpr
      rw [hpp, List.append_nil]
    subst hpe
    clear hpp hpr
    have hax : (cellsLed w cells).map (·.1) = (cellsLed w cs').map (·.1) := (cells_addrs w (sk_x hsk)).symm
    have hnd1 : NDL ((mr, listOf #[] nm) :: (H, listOf hs.toArray nh) :: (wi, instObj 231 wd) :: (wd, dictOf (wEs w ks V store aside H made tm) 26) :: (store, os) :: cellsLed w cs') := NDL.addrs (by simp only [List.map_cons, ← hR, hax]) hnd0.out
    have hnd2 := Kp.mk hnd1
    generalize hR' : cellsLed w cs' = R' at *
    simp only [NDL, NeAll, and_true] at hnd1
    refine hideG fun gP gK => ?_
    repeat (rename _ ∧ _ => hc; rcases hc with ⟨_, _⟩)
    refine gK ?_
    clear gK gP
    dsimp only
    k_steps
    unfold Stop
    refine' Spec.use (news := _) (roots_C w (wi := wi) (wd := wd) (store := store) (V := V) (made := made) (tm := tm) (ks := ks) (aside := aside) (H := H) hos (by omega) hkd lo ?hne) ((mr, listOf #[] nm) :: (H, listOf hs.toArray nh) :: R') ?B ?F ?X ?N ?T ?K ?hs (apart_of ?ha) ?_
    case B => assumption
    case F => assumption
    case X => assumption
    case N => assumption
    case T => assumption
    case K => rfl
    case hne => exact ⟨⟨by assumption, by assumption, trivial⟩, ⟨by assumption, trivial⟩, trivial, trivial⟩
    case hs =>
      intro p hp
      simp only [List.cons_append, List.nil_append, List.mem_cons] at hp ⊢
      rcases hp with h | h | h | h | h | h <;> simp only [h, true_or, or_true]
    case ha =>
      simp only [ApartL, NeAll, and_true]
      (repeat' refine And.intro ?_ ?_) <;> first | assumption | (refine NE.symm ?_; assumption)
    clear N₁
    intro r2 ft2 h2 tk2 hP F3 N3 ha3 _
    obtain ⟨l2, ys, n2, rfl, rfl, hl2, hyl, hym⟩ := hP
    replace ha3 := apartL_of ha3
    dsimp only [List.cons_append, List.nil_append] at N3
    simp only [List.cons_append, List.nil_append, ApartL, NeAll, NeL, and_true] at ha3 hl2
    clear F₂
    refine hideG fun gP gK => ?_
    repeat (rename _ ∧ _ => hc; rcases hc with ⟨_, _⟩)
    refine gK ?_
    clear gK gP
    k_steps
    unfold Stop
    refine kmk_add_lit (zs := ys) (its := ys.toArray) (its2 := #[]) F3 N3 ⟨_, (N3 _ (.head _)).1, rfl, _, rfl⟩ ⟨_, (N3 (mr, listOf #[] nm) (by simp only [List.mem_cons, true_or, or_true])).1, rfl, _, rfl⟩ (by simp) ?_ (by rw [sizeLine_eq]; simp; omega)
    intro D h3 F4 N4 l4
    have hD : NeAll D ((l2, listOf ys.toArray n2) :: (mr, listOf #[] nm) :: (H, listOf hs.toArray nh) :: (wi, instObj 231 wd) :: (wd, dictOf (wEs w ks V store aside H made tm) 26) :: (store, os) :: R') := neAll_of fun q hq e => Nat.lt_irrefl D (by
      have := l4 q (by
        simp only [List.mem_cons] at hq ⊢
        rcases hq with h | h | h | h | h | h | h <;> simp only [h, true_or, or_true])
      rw [← e] at this; exact this)
    have hnd4 : Kp (NDL ((D, listOf ys.toArray 0) :: (l2, listOf ys.toArray n2) :: (mr, listOf #[] nm) :: (H, listOf hs.toArray nh) :: (wi, instObj 231 wd) :: (wd, dictOf (wEs w ks V store aside H made tm) 26) :: (store, os) :: R')) :=
      .mk ⟨hD, ⟨by assumption, by assumption, by assumption, by assumption, by assumption, by assumption⟩, hnd2.out⟩
    clear l4
    simp only [NeAll] at hD
    refine hideG fun gP gK => ?_
    repeat (rename _ ∧ _ => hc; rcases hc with ⟨_, _⟩)
    refine gK ?_
    clear gK gP
    clear F3 N3
    k_steps
    unfold Stop
    have hnR : NDL ((D, listOf ys.toArray 0) :: cellsLed w cs') := by
      rw [hR']
      exact ⟨by assumption, (hnd2.out).2.2.2.2.2⟩
    have hri : RInv (sk cs') inner rts ys [] := by
      rw [hsk]
      refine ⟨fun v hv => ?_, (fun _ h => nomatch h), (fun _ h => nomatch h), fun j hj => ?_⟩
      · obtain ⟨k, hk⟩ := (hym v).mp hv
        rcases hS.out k v hk with h | ⟨j, hj, ha⟩
        · exact .inl h
        · exact .inr ⟨j, ha, .root hj⟩
      · obtain ⟨k, y, hk, ha⟩ := hS2.out j hj
        exact .inr ⟨y, (hym y).mpr ⟨k, hk⟩, ha⟩
    have hcl2 : cs'.length ≤ 20 := by
      have := congrArg List.length hsk
      simp only [sk, List.length_map] at this
      omega
    refine' Spec.use (news := _) (reach_C w (rl := D) (rs := ys) (nr := 0) (cells := cs') (by omega) hcl2 hnR (hsk ▸ hg) (hsk ▸ hinj) hri) ((l2, listOf ys.toArray n2) :: (wi, instObj 231 wd) :: (wd, dictOf (wEs w ks V store aside H made tm) 26) :: (store, os) :: (mr, listOf #[] nm) :: [(H, listOf hs.toArray nh)]) ?B ?F ?X ?N ?T ?K ?hs (apart_of ?ha) ?_
    case B => assumption
    case F => assumption
    case X => assumption
    case N => assumption
    case T => assumption
    case K => rfl
    case hs =>
      rw [hR']
      intro p hp
      simp only [List.cons_append, List.nil_append, List.mem_cons, List.mem_append, List.not_mem_nil, or_false] at hp ⊢
      rcases hp with h | h | h | h | h | h | h | h <;> simp only [h, true_or, or_true]
    case ha =>
      rw [hR']
      refine ⟨?_, apartL_flip ?_⟩
      · simp only [NeAll, and_true]
        (repeat' refine And.intro ?_ ?_) <;> assumption
      · simp only [ApartL, and_true]
        (repeat' refine And.intro ?_ ?_) <;> assumption
    clear F4 N4
    intro r5 ft5 h5 tk5 hP F5 N5 _ _
    obtain ⟨cs2, rfl, hsk2, hmk⟩ := hP
    replace hsk2 := hsk2.trans hsk
    have hax2 : (cellsLed w cells).map (·.1) = (cellsLed w cs2).map (·.1) := (cells_addrs w (sk_x hsk2)).symm
    have hnd5 : NDL ((D, listOf ys.toArray 0) :: (l2, listOf ys.toArray n2) :: (mr, listOf #[] nm) :: (H, listOf hs.toArray nh) :: (wi, instObj 231 wd) :: (wd, dictOf (wEs w ks V store aside H made tm) 26) :: (store, os) :: cellsLed w cs2) := NDL.addrs (by simp only [List.map_cons, ← hR', ← hax2, hax]) hnd4.out
    have N6 := newsSub (b := (mr, listOf #[] nm) :: (H, listOf hs.toArray nh) :: (wi, instObj 231 wd) :: (wd, dictOf (wEs w ks V store aside H made tm) 26) :: (store, os) :: cellsLed w cs2) N5 (by
      intro p hp
      simp only [List.cons_append, List.nil_append, List.mem_cons, List.mem_append] at hp ⊢
      rcases hp with h | h | h | h | h | h <;> simp only [h, true_or, or_true])
    replace hnd5 := hnd5.2.2
    have hnd6 := Kp.mk hnd5
    clear N5 hnd4
    -- the marks, as the comprehensions ask them
    have hm : ∀ j ∈ hl, ∀ c : Cell, cs2[j]? = some c → (Rch inner rts j → c.mrk = 1) ∧ (¬ Rch inner rts j → c.mrk = 0) := by
      intro j hj c hc
      have hjl : j < cs'.length := by
        have h1 := congrArg List.length (hsk2.trans hsk.symm)
        simp only [sk, List.length_map] at h1
        have := (List.getElem?_eq_some_iff.mp hc).1
        omega
      obtain ⟨c0, hc0⟩ : ∃ c0, cs'[j]? = some c0 := ⟨_, List.getElem?_eq_getElem hjl⟩
      have h2 := hmk j c0 c hc0 hc
      exact ⟨h2.1, fun h => by rw [h2.2 h]; exact hz j hj c0 hc0⟩
    clear hmk hz
    have hln2 : hs.length ≤ 1000 := by rw [← paired_len hhl]; omega
    generalize hR2 : cellsLed w cs2 = R2 at *
    simp only [NDL, NeAll, and_true] at hnd5
    refine hideG fun gP gK => ?_
    repeat (rename _ ∧ _ => hc; rcases hc with ⟨_, _⟩)
    refine gK ?_
    clear gK gP
    k_steps
    unfold Stop
    refine' comp_L (h₀ := g') (L := L') ?cl (hasMark cs2 0) (fun _ y => ∃ n t, y = Value.int n t) ?hclos ?hcell ?hkind ?hnames ?hx ?hh ?_ ?hs
    case hclos => with_unfolding_all rfl
    case hcell => decide
    case hkind => with_unfolding_all rfl
    case hnames => decide
    case hx => with_unfolding_all rfl
    case hh => rfl
    case hs => intro _; with_unfolding_all rfl
    k_steps
    unfold Stop
    refine ⟨_, hs, nh, _, _, rfl, by assumption, N6, by simp only [List.mem_cons, true_or, or_true], hln2, ⟨?q1, ?q2⟩, ?q3⟩
    case q1 =>
      intro C v s₃ m₃ E' hv hns hx F₃ N₃
      obtain ⟨j, hj, ha⟩ := paired_right hhl v hv
      obtain ⟨c, hc, rfl⟩ := at_cell hsk2 ha
      have N₄ := newsSub (b := (cellLed w c)) N₃ (fun p hp => by
        simp only [List.mem_cons]
        refine .inr (.inr (.inr (.inr (.inr ?_))))
        rw [← hR2]
        exact (cells_perm w hc).mem_iff.mpr (List.mem_append_left _ hp))
      rw [hasMark_at (hsk2 ▸ hinj) hc]
      dsimp only [cellLed, arrLed] at N₄
      clear N₃
      refine tests1 ?_
      k_steps
      exact keeps_same
    case q2 =>
      intro C v s₃ m₃ E' hv hp hns hx F₃ N₃
      obtain ⟨j, hj, ha⟩ := paired_right hhl v hv
      obtain ⟨c, hc, rfl⟩ := at_cell hsk2 ha
      have N₄ := newsSub (b := (cellLed w c)) N₃ (fun p hp => by
        simp only [List.mem_cons]
        refine .inr (.inr (.inr (.inr (.inr ?_))))
        rw [← hR2]
        exact (cells_perm w hc).mem_iff.mpr (List.mem_append_left _ hp))
      dsimp only [cellLed, arrLed] at N₄
      clear N₃
      k_steps
      · exact ⟨_, _, rfl⟩
      · exact keeps_same
    case q3 =>
      clear N6
      intro D₂ h₇ tk₇ c₇ gs F₇ N₇ ha₇ hpair
      obtain ⟨ns, hI⟩ := intsAre_of (vs := gs) (fun y hy => by obtain ⟨_, _, h⟩ := paired_right hpair y hy; exact h)
      have hgl : gs.length ≤ 20 := by
        rw [← paired_len hpair]
        have := List.length_filter_le (hasMark cs2 0) hs
        have := paired_len hhl
        omega
      simp only [NeAll, and_true] at ha₇
      refine hideG fun gP gK => ?_
      repeat (rename _ ∧ _ => hc; rcases hc with ⟨_, _⟩)
      refine gK ?_
      clear gK gP
      k_steps
      unfold Stop
      refine sorted_N (vs := gs) F₇ N₇ ⟨_, (N₇ _ (.head _)).1, rfl, _, rfl⟩ hI (by omega) ?_
      intro h8 gs' ns' e8 F8 N8 hI' hP' _
      have hgl' : gs'.length = (hs.filter (hasMark cs2 0)).length := by rw [hI'.length, hP'.length_eq, ← hI.length, paired_len hpair]
      have hD8 : NeAll (h₇.objs.size + 1) ((mr, listOf #[] nm) :: (H, listOf hs.toArray nh) :: (wi, instObj 231 wd) :: (wd, dictOf (wEs w ks V store aside H made tm) 26) :: (store, os) :: R2) := neAll_of fun q hq e => by
        have := Heap.lt_size (N₇ q (.tail _ hq)).1
        rw [← e] at this
        have : h₇.objs.size + 1 < h₇.objs.size := this
        omega
      generalize h₇.objs.size + 1 = G at *
      have N9 := newsSub (b := (G, listOf gs'.toArray e8) :: (mr, listOf #[] nm) :: (H, listOf hs.toArray nh) :: (wi, instObj 231 wd) :: (wd, dictOf (wEs w ks V store aside H made tm) 26) :: (store, os) :: R2) N8 (by
        intro p hp
        simp only [List.mem_cons] at hp ⊢
        rcases hp with h | h | h | h | h | h | h <;> first | (simp only [h, true_or, or_true]; done) | exact .inl h)
      clear N8 N₇ F₇
      simp only [NeAll, and_true] at hD8
      refine hideG fun gP gK => ?_
      repeat (rename _ ∧ _ => hc; rcases hc with ⟨_, _⟩)
      refine gK ?_
      clear gK gP
      k_steps
      unfold Stop
      refine' comp_L (h₀ := g') (L := L') ?cl (hasMark cs2 1) (fun v y => y = v) ?hclos ?hcell ?hkind ?hnames ?hx ?hh ?_ ?hs
      case hclos => with_unfolding_all rfl
      case hcell => decide
      case hkind => with_unfolding_all rfl
      case hnames => decide
      case hx => with_unfolding_all rfl
      case hh => rfl
      case hs => intro _; with_unfolding_all rfl
      k_steps
      unfold Stop
      rename News _ _ _ _ => N9
      refine ⟨_, hs, nh, _, _, rfl, by assumption, N9, by simp only [List.mem_cons, true_or, or_true], hln2, ⟨?q1, ?q2⟩, ?q3⟩
      case q1 =>
        intro C v s₃ m₃ E' hv hns hx F₃ N₃
        obtain ⟨j, hj, ha⟩ := paired_right hhl v hv
        obtain ⟨c, hc, rfl⟩ := at_cell hsk2 ha
        have N₄ := newsSub (b := (cellLed w c)) N₃ (fun p hp => by
          simp only [List.mem_cons]
          refine .inr (.inr (.inr (.inr (.inr (.inr ?_)))))
          rw [← hR2]
          exact (cells_perm w hc).mem_iff.mpr (List.mem_append_left _ hp))
        rw [hasMark_at (hsk2 ▸ hinj) hc]
        dsimp only [cellLed, arrLed] at N₄
        clear N₃
        refine tests1 ?_
        k_steps
        exact keeps_same
      case q2 =>
        intro C v s₃ m₃ E' hv hp hns hx F₃ N₃
        k_steps
        exact keeps_refl
      case q3 =>
        clear N9
        intro D₃ h9 tk9 c9 ts F9 N9 ha9 hpair2
        simp only [NeAll, and_true] at ha9
        refine hideG fun gP gK => ?_
        repeat (rename _ ∧ _ => hc; rcases hc with ⟨_, _⟩)
        refine gK ?_
        clear gK gP
        dsimp only [instObj] at N9
        k_steps
        have hte := paired_eq hpair2
        subst hte
        have hpf : ∀ j ∈ hl, ∀ v, At (sk cells) j v → pRch inner rts j = hasMark cs2 1 v ∧ (!pRch inner rts j) = hasMark cs2 0 v := by
          intro j hj v ha
          obtain ⟨c, hc, rfl⟩ := at_cell hsk2 ha
          rw [hasMark_at (hsk2 ▸ hinj) hc, hasMark_at (hsk2 ▸ hinj) hc]
          have h1 := hm j hj c hc
          by_cases h : Rch inner rts j
          · rw [h1.1 h, pRch_spec.mpr h]; exact ⟨rfl, rfl⟩
          · rw [h1.2 h, show pRch inner rts j = false from by rw [Bool.eq_false_iff]; exact fun e => h (pRch_spec.mp e)]; exact ⟨rfl, rfl⟩
        refine' FootEnd.intro (foot' := (G, listOf gs'.toArray e8) :: (D₃, listOf (hs.filter (hasMark cs2 1)).toArray c9) :: (wi, instObj 231 wd) :: (wd, dictOf (wEs w ks V store aside D₃ made tm) 26) :: (store, os) :: R2) (by assumption) (newsSub (by assumption) ?h1) ⟨G, D₃, gs', hs.filter (hasMark cs2 1), e8, c9, cs2, pRch inner rts, rfl, by rw [hR2], ?h0, ?hg, hsk2, fun j => pRch_spec, paired_filter hhl fun j hj v ha => (hpf j hj v ha).1, ?h2⟩
        case h1 =>
          intro p hp
          simp only [List.mem_cons] at hp ⊢
          rcases hp with h | h | h | h | h | h <;> first | (simp only [h, true_or, or_true]; done)
        case h0 =>
          simp only [NDL, NeAll]
          (repeat' refine And.intro ?_ ?_) <;> first | assumption | (refine NE.symm ?_; assumption)
        case hg =>
          rw [hgl', paired_len hpair]
          exact hgl
        case h2 =>
          rw [hgl', ← paired_len (paired_filter hhl fun j hj v ha => (hpf j hj v ha).2)]
          exact filter_split _ _
theorem omN {a b : Nat} (h : @Ne Nat a b) : @Ne Addr a b := h
theorem ltN {h : Heap} {a : Addr} {o : Obj} (e : h.get? a = some o) : @LT.lt Nat _ a h.objs.size := Heap.lt_size e
section
variable {prog : Program} {w : World} {A : Around} {E : Value → Shared → Prop} {env : Env} {h₀ : Heap} {L : Addr}
theorem codeAny_compLoop_none {s : Shared} {R : Result → Shared → Prop} {elt target iter : Expr} {ifs : List Expr} {rest : List Comprehension} {scope : Scope} {pos : Pos} {it acc : Value}
    (h : wpAny (model prog w) A (pyNext it) (fun r s₁ => r = none ∧ R (.ok .next) s₁) (notedBy (model prog w) A env fun e s' => R (.error e) s') s) :
    codeAny (model prog w) A (.compLoop (.ListComp elt (⟨target, iter, ifs, 0⟩ :: rest) scope pos) 0 it acc env) R s := by
  refine codeAny_of_tree ?_
  show wpAny _ _ ((compTurn (.ListComp elt (⟨target, iter, ifs, 0⟩ :: rest) scope pos) 0 it acc env).onRaise (fun x => do noteFrame x env; theTreesLotGoes x)) _ _ s
  refine wpAny_noted ?_
  show wpAny _ _ (standAt iter.pos >>= fun _ => pyNext it >>= fun r => _) _ _ s
  refine wpAny_bind (wpAny_standAt (wpAny_bind (wpAny_mono h (fun r s₁ h₁ => ?_) fun _ _ e => e)))
  obtain ⟨rfl, h₁⟩ := h₁
  exact wpAny_pure h₁
theorem comp_none {s : Shared} {elt target iter : Expr} {ifs : List Expr} {rest : List Comprehension} {scope : Scope} {pos : Pos} {Q : Value → Shared → Prop} (cl : List (Str × Addr))
    (hclos : closureFor scope env = pure cl) (hcell : ∀ y ∈ scope.names, y.2 ≠ .cell) (hkind : scope.kind = .function)
    (hnames : ∀ y ∈ scope.names, y.2 = .local → scope.names.lookup y.1 = some .local) (hh : A.handled = none)
    (h : wpAny (model prog w) A (eval iter env) (fun xv s₁ => ∃ (l : Addr) (c : Nat) (m : Str → Option Value) (news : Led), xv = .ref l ∧ Fr h₀ L s₁.heap m ∧ News h₀ L s₁.heap news ∧ (l, listOf #[] c) ∈ news ∧
      (∀ D h' tk, Fr h₀ L h' m → News h₀ L h' ((D, listOf #[] 0) :: news) → NeAll D news → Q (.ref D) { s₁ with heap := h', toks := tk })) E s)
    (hs : ∀ x, foldedSetIterable iter env x = pure x := by intro _; rfl) :
    wpAny (model prog w) A (eval (.ListComp elt (⟨target, iter, ifs, 0⟩ :: rest) scope pos) env) Q E s := by
  rw [eval_ListComp]
  refine wpAny_comprehension_free (use := none) rfl hs hclos hkind hnames (wpAny_mono h (fun xv s₁ h₁ => ?_) fun _ _ e => e)
  obtain ⟨l, c, m, news, rfl, F, N, hm, hQ⟩ := h₁
  have hls : s₁.heap.IsList l #[] := ⟨_, (N _ hm).1, rfl, c, rfl⟩
  have hlt : l < s₁.heap.objs.size := Heap.lt_size (N _ hm).1
  have hne : l ≠ s₁.heap.objs.size := Nat.ne_of_lt hlt
  refine wpAny_pyIter_list hls ?_
  have W := Walks.list (prog := prog) (w := w) (A := A) hh s₁.heap.objs.size l hne #[]
  generalize hH1 : s₁.heap.push { cls := .type "list_iterator", data := .fields #[.ref l, .int 0 0] } = H1
  have hI : H1.objs.size = s₁.heap.objs.size + 1 := by rw [← hH1, Heap.size_push]
  have hst : H1.IsListIter s₁.heap.objs.size l 0 ∧ H1.IsList l #[] := by
    rw [← hH1]
    exact ⟨⟨_, Heap.get?_push_size _ rfl, rfl, rfl⟩, hls.at fun o e => Heap.get?_push_of_some _ e⟩
  have old1 : ∀ b o, s₁.heap.get? b = some o → H1.get? b = some o := fun b o e => hH1 ▸ Heap.get?_push_of_some _ e
  refine wpAny_newObj_type (wpAny_newFunctionEnv hcell (by intro y hy; simp at hy) (fun h₁ hns₁ hsb₁ => ?_) hkind)
  dsimp only at hns₁ hsb₁ ⊢
  generalize hH2 : H1.push { cls := .type "list", dict := none, data := .seq ([] : List Value).toArray } = H2 at hns₁ hsb₁ ⊢
  have hC : H2.objs.size = H1.objs.size + 1 := by rw [← hH2, Heap.size_push]
  have old : ∀ b o, H1.get? b = some o → h₁.get? b = some o := fun b o e => hsb₁.extBut b o (by have := ltN e; (refine omN ?_; omega)) (Heap.get?_push_of_some _ (hH2 ▸ Heap.get?_push_of_some _ e))
  have hacc : h₁.get? H1.objs.size = some (listOf #[] 0) := hsb₁.extBut _ _ (by (refine omN ?_; omega)) (Heap.get?_push_of_some _ (hH2 ▸ Heap.get?_push_size _ rfl))
  have hst₁ := W.frame 0 _ _ hst fun b _ o e => old b o e
  have loop : codeAny (model prog w) A (.compLoop (.ListComp elt (⟨target, iter, ifs, 0⟩ :: rest) scope pos) 0 (.ref s₁.heap.objs.size) (.ref H1.objs.size) (compEnvC scope cl H2.objs.size env))
      (compPost (model prog w) A E none Q (.ref H1.objs.size) H2.objs.size) { s₁ with heap := h₁, toks := s₁.toks + ([] : List (Str × Value)).length } := by
    refine codeAny_compLoop_none (W.done _ _ _ hst₁ fun h₂ tk₂ hk₂ => ⟨rfl, ?_⟩)
    obtain ⟨oC, x1, x2, hoC, x3⟩ := hns₁
    refine ⟨_, ⟨oC, x1, x2, hk₂ _ _ (by simp only [List.mem_singleton]; (refine omN ?_; omega)) hoC, x3⟩, fun h' hs' => ?_⟩
    have oldall : ∀ b o, s₁.heap.get? b = some o → h'.get? b = some o := fun b o e => by
      have hb := ltN e
      exact hs'.extBut b o (by (refine omN ?_; omega)) (hk₂ b o (by simp only [List.mem_singleton]; (refine omN ?_; omega)) (old b o (old1 b o e)))
    refine hQ H1.objs.size h' tk₂ ⟨F.ns.at' fun o e => oldall _ o e, fun b o e => oldall b o (F.keep b o e), F.above⟩ (fun q hq => ?_) (neAll_of fun q hq e => ?_)
    · rcases List.mem_cons.mp hq with rfl | hq
      · refine ⟨hs'.extBut _ _ (by simp only; (refine omN ?_; omega)) (hk₂ _ _ (by simp only [List.mem_singleton]; (refine omN ?_; omega)) hacc), ?_, ?_⟩
        · obtain ⟨oL, _, _, hoL, _⟩ := F.ns
          have := ltN hoL
          simp only
          (refine omN ?_; omega)
        · cases q : h₀.get? H1.objs.size with
          | none => rfl
          | some o => have := ltN (F.keep _ o q); omega
      · exact ⟨oldall _ _ (N q hq).1, (N q hq).2⟩
    · have := ltN (N q hq).1
      rw [← e] at this
      omega
  exact codeAny_compStart_list loop (W.self 0 _ _ _ hst₁ loop)
end
noncomputable abbrev cwLed (w : World) (H wi wd store aside : Addr) (nh na : Nat) (hs : List Value) (ks : Nat → Tok) (V : Nat → Value) (made : Int) (tm : Tok) (os : Obj) (cells : List Cell) : Led :=
  (aside, listOf #[] na) :: (H, listOf hs.toArray nh) :: (wi, instObj 231 wd) :: (wd, dictOf (wEs w ks V store aside H made tm) 26) :: (store, os) :: cellsLed w cells
theorem cwork_C (w : World) {al H wi wd store aside : Addr} {nh na : Nat} {hs : List Value} {ks : Nat → Tok} {V : Nat → Value} {made : Int} {tm : Tok} {os : Obj} {cells : List Cell} {kvs : List (Str × Value)} {inner : List Int} {rts hl : List Nat}
  (hcl : cells.length ≤ 20) (hnd : NDL (cwLed w H wi wd store aside nh na hs ks V made tm os cells)) (hg : GG (sk cells) inner) (hinj : Inj (sk cells))
  (hos : SD w os kvs) (hkn : kvs.length ≤ 20) (hkd : (kvs.map (·.1)).Nodup) (lo : (store == sysModules) = false)
  (hst1 : ∀ k y, valueAt kvs k = some y → (∃ s t, y = Value.str s t) ∨ ∃ j ∈ rts, At (sk cells) j y) (hst2 : ∀ j ∈ rts, ∃ k y, valueAt kvs k = some y ∧ At (sk cells) j y)
  (hhl : Paired (At (sk cells)) hl hs) (hln : hl.length ≤ 20) :
  Spec w 303 10 297 [.ref wi, .ref al] (cwLed w H wi wd store aside nh na hs ks V made tm os cells) (fun r ft => ∃ (H' : Addr) (hs' : List Value) (nh' : Nat) (cs' : List Cell) (p : Nat → Bool) (n : Nat) (t : Tok), r = .int (n : Int) t ∧
    ft = cwLed w H' wi wd store aside nh' na hs' ks V made tm os cs' ∧ NDL ft ∧ sk cs' = sk cells ∧
    (∀ j, p j = true ↔ Rch inner rts j) ∧ Paired (At (sk cells)) (hl.filter p) hs' ∧ n + (hl.filter p).length = hl.length) := by
  k_with_none
  k_with "eval ListComp" => (k_here; refine stop_ ?_)
  k_with "Exists" => (refine stop_ ?_)
  k_with "call builtin:len" => (k_here; refine stop_ ?_)
  k_with "call ref" => (k_here; refine stop_ ?_)
  intro cn cs a ccd cl outer A₀ base h₀ L m s Q E p loose mean mg mb rest B F X N T hk hap hret
  revert X; k_fill; intro X
  dsimp only [SD] at hos
  have hnd0 := Kp.mk hnd
  have hS := Kp.mk hst1
  have hS2 := Kp.mk hst2
  dsimp only [cwLed] at *
  generalize hR : cellsLed w cells = R at *
  simp only [NDL, NeAll] at hnd
  refine hideG fun gP gK => ?_
  repeat (rename _ ∧ _ => hc; rcases hc with ⟨_, _⟩)
  refine gK ?_
  clear gK gP
  refine wpAny_call ?_
  k_dflt (refine' foot_code _ B F X N T ?kA ?kF ?kK hap ?k6 ?k7 ?k8 ?k9 ?kB ?_ hret ?c2 ?c3 ?c4 ?c5; (case kA => exact rfl); (case kF => exact rfl); (case kK => exact hk); (case k6 => k_is); (case k7 => k_is); (case k8 => k_room); (case k9 => exact BindsTo.of_eq rfl); (case c5 => decide); (case kB => exact locs rfl); (case c2 => exact rfl); (case c3 => exact rfl); (case c4 => exact rfl))
  clear hret N F X T B hap
  intro g' L' h' F' N' B' X' T'
  k_steps
  unfold Stop
  refine' comp_none (h₀ := g') (L := L') ?cl ?hclos ?hcell ?hkind ?hnames ?hh ?_ ?hs
  case hclos => with_unfolding_all rfl
  case hcell => decide
  case hkind => with_unfolding_all rfl
  case hnames => decide
  case hh => rfl
  case hs => intro _; with_unfolding_all rfl
  k_steps
  unfold Stop
  refine ⟨_, na, _, _, rfl, F', N', by simp only [List.mem_cons, true_or, or_true], ?_⟩
  intro D h₁ tk₁ F₁ N₁ ha₁
  clear F' N'
  have hnd2 : Kp (NDL (collLed w D H wi wd store aside 0 nh hs ks V made tm os cells)) := by
    refine .mk ?_
    simp only [collLed, hR, NDL]
    refine ⟨?_, hnd0.out.2⟩
    simp only [NeAll] at ha₁ ⊢
    exact ha₁.2
  simp only [NeAll] at ha₁
  refine hideG fun gP gK => ?_
  repeat (rename _ ∧ _ => hc; rcases hc with ⟨_, _⟩)
  refine gK ?_
  clear gK gP
  k_steps
  unfold Stop
  refine' Spec.use (news := _) (collect_C w (mr := D) (H := H) (wi := wi) (wd := wd) (store := store) (aside := aside) (nm := 0) (nh := nh) (V := V) (made := made) (tm := tm) (ks := ks) (rts := rts) hcl hnd2.out hg hinj hos hkn hkd lo hS.out hS2.out hhl hln) [(aside, listOf #[] na)] ?B ?F ?X ?N ?T ?K ?hs (apart_of ?ha) ?_
  case B => assumption
  case F => assumption
  case X => assumption
  case N => assumption
  case T => assumption
  case K => rfl
  case hs =>
    dsimp only [collLed]
    rw [hR]
    intro p hp
    simp only [List.cons_append, List.nil_append, List.mem_cons, List.mem_append, List.not_mem_nil, or_false] at hp ⊢
    rcases hp with h | h | h | h | h | h | h <;> simp only [h, true_or, or_true]
  case ha =>
    dsimp only [collLed]
    rw [hR]
    refine apartL_flip ?_
    simp only [ApartL, NeAll, and_true]
    (repeat' refine And.intro ?_ ?_) <;> first | assumption | (refine NE.symm ?_; assumption)
  clear F₁ N₁
  intro r2 ft2 h2 tk2 hP F2 N2 ha2 _
  obtain ⟨g2, H2, gs, hs2, ng, nh2, cs2, p2, rfl, rfl, hnd3, hgl, hsk, hp2, hpr, hsum⟩ := hP
  replace ha2 := apartL_flip (apartL_of ha2)
  generalize hR2 : cellsLed w cs2 = R2 at *
  simp only [List.cons_append, List.nil_append, ApartL, NeAll, NDL, and_true] at ha2 hnd3
  dsimp only [List.cons_append] at N2
  refine hideG fun gP gK => ?_
  repeat (rename _ ∧ _ => hc; rcases hc with ⟨_, _⟩)
  refine gK ?_
  clear gK gP
  k_steps
  unfold Stop
  refine len_L N2 (.head _) (by rw [List.size_toArray]; omega) ?_
  k_steps
  refine' FootEnd.intro (foot' := (aside, listOf #[] na) :: (H2, listOf hs2.toArray nh2) :: (wi, instObj 231 wd) :: (wd, dictOf (wEs w ks V store aside H2 made tm) 26) :: (store, os) :: R2) (by assumption) (newsSub (by assumption) ?h1) ⟨H2, hs2, nh2, cs2, p2, gs.length, _, by rw [List.size_toArray], by rw [hR2], ?h2, hsk, hp2, hpr, hsum⟩
  case h1 =>
    intro p hp
    simp only [List.mem_cons, List.mem_append, List.not_mem_nil, or_false] at hp ⊢
    rcases hp with h | h | h | h | h | h <;> simp only [h, true_or, or_true]
  case h2 =>
    simp only [NDL, NeAll]
    (repeat' refine And.intro ?_ ?_) <;> first | assumption | (refine NE.symm ?_; assumption)
/-- what the law holds between two of its calls -/
structure St where
  wi : Addr
  wd : Addr
  store : Addr
  aside : Addr
  H : Addr
  kw : Addr
  va : Addr
  T : Addr
  I : Addr
  Hd : Addr
  na : Nat
  nh : Nat
  nT : Nat
  nI : Nat
  nHd : Nat
  hs : List Value
  tv : List Value
  iv : List Value
  hv : List Value
  ks : Nat → Tok
  V : Nat → Value
  made : Int
  tm : Tok
  os : Obj
  okw : Obj
  ova : Obj
  cells : List Cell
  kvs : List (Str × Value)
  kvv : List (Str × Value)
  a : Int
  b : Int
  ta : Tok
  tb : Tok
  inner : List Int
  hl : List Nat
noncomputable def St.led (w : World) (S : St) : Led :=
  (S.kw, S.okw) :: (S.va, S.ova) :: (S.T, listOf S.tv.toArray S.nT) :: (S.I, listOf S.iv.toArray S.nI) :: (S.Hd, listOf S.hv.toArray S.nHd) :: cwLed w S.H S.wi S.wd S.store S.aside S.nh S.na S.hs S.ks S.V S.made S.tm S.os S.cells
noncomputable def VarOK (S : List (Arr × Value)) (kvs : List (Str × Value)) (name : String) (at_ : Int) : Prop :=
  (at_ < 0 ∧ ∀ y, valueAt kvs (Str.ofString name) = some y → ∃ s t, y = Value.str s t) ∨ (0 ≤ at_ ∧ ∃ y, valueAt kvs (Str.ofString name) = some y ∧ At S at_.toNat y)
noncomputable def AB (kvs : List (Str × Value)) : Prop := ∀ k ∈ kvs.map (·.1), k = Str.ofString "A" ∨ k = Str.ofString "B"
structure St.Ok (w : World) (S : St) : Prop where
  nd : NDL (S.led w)
  gg : GG (sk S.cells) S.inner
  kd : SD w S.okw (kvK S.T S.I S.Hd S.va)
  vd : SD w S.ova S.kvv
  sd : SD w S.os S.kvs
  k1 : AB S.kvs
  k2 : AB S.kvv
  xa : valueAt S.kvv (Str.ofString "A") = some (.int S.a S.ta)
  xb : valueAt S.kvv (Str.ofString "B") = some (.int S.b S.tb)
  la : S.a < (S.inner.length : Nat)
  lb : S.b < (S.inner.length : Nat)
  vA : VarOK (sk S.cells) S.kvs "A" S.a
  vB : VarOK (sk S.cells) S.kvs "B" S.b
  tv : S.tv = S.cells.map fun c => Value.ref c.x.a
  iv : IntsAre S.iv S.inner
  hv : IntsAre S.hv (S.hl.map fun j => ((j : Nat) : Int))
  hp : Paired (At (sk S.cells)) S.hl S.hs
  hn : S.hl.length ≤ S.inner.length
  md : S.made = ((S.inner.length : Nat) : Int)
  ib : ∀ k ∈ S.inner, k < (S.inner.length : Nat)
  lo1 : (S.store == sysModules) = false
  lo2 : (S.kw == sysModules) = false
  lo3 : (S.va == sysModules) = false
/-- the roots -/
noncomputable def rtsOf (a b : Int) : List Nat := (if 0 ≤ a then [a.toNat] else []) ++ (if 0 ≤ b then [b.toNat] else [])
theorem ab_len {kvs : List (Str × Value)} (h : AB kvs) (hn : (kvs.map (·.1)).Nodup) : kvs.length ≤ 2 := by
  match kvs, h, hn with
  | [], _, _ => simp
  | [_], _, _ => simp
  | [_, _], _, _ => simp
  | x :: y :: z :: r, h, hn =>
    exfalso
    have h1 := h x.1 (by simp only [List.map_cons, List.mem_cons, true_or])
    have h2 := h y.1 (by simp only [List.map_cons, List.mem_cons, true_or, or_true])
    have h3 := h z.1 (by simp only [List.map_cons, List.mem_cons, true_or, or_true])
    simp only [List.map_cons, List.nodup_cons, List.mem_cons, not_or] at hn
    obtain ⟨⟨e1, e2, _⟩, ⟨e3, _⟩, _⟩ := hn
    rcases h1 with h1 | h1 <;> rcases h2 with h2 | h2 <;> rcases h3 with h3 | h3 <;> first | exact e1 (h1.trans h2.symm) | exact e2 (h1.trans h3.symm) | exact e3 (h2.trans h3.symm)
theorem inj_of_ndl {w : World} : ∀ {cs : List Cell}, NDL (cellsLed w cs) → Inj (sk cs)
  | [], _ => fun i k q r h => by simp [sk] at h
  | c :: cs, h => by
    have h' : NDL (cellLed w c ++ cellsLed w cs) := h
    obtain ⟨_, h2, h3⟩ := NDL.app h'
    have ih := inj_of_ndl h2
    have key : ∀ (i : Nat) (r : Arr × Value), (sk cs)[i]? = some r → c.x.a ≠ r.1.a := by
      intro i r hr e
      obtain ⟨d, hd, rfl⟩ : ∃ d, cs[i]? = some d ∧ (d.x, d.v0) = r := by simpa [sk] using hr
      have hm : (d.x.a, instObj 152 d.x.d) ∈ cellsLed w cs := (cells_perm w hd).mem_iff.mpr (by simp [cellLed, arrLed])
      exact h3 (c.x.a, instObj 152 c.x.d) (by simp [cellLed, arrLed]) _ hm e
    intro i k q r hq hr e
    match i, k with
    | 0, 0 => rfl
    | 0, k + 1 =>
      have hq' : (c.x, c.v0) = q := by simpa [sk] using hq
      subst hq'
      exact absurd e (key k r (by simpa [sk] using hr))
    | i + 1, 0 =>
      have hr' : (c.x, c.v0) = r := by simpa [sk] using hr
      subst hr'
      exact absurd e.symm (key i q (by simpa [sk] using hq))
    | i + 1, k + 1 => rw [ih i k q r (by simpa [sk] using hq) (by simpa [sk] using hr) e]
theorem sd_nodup {w : World} {o : Obj} {kvs : List (Str × Value)} (h : SD w o kvs) : (kvs.map (·.1)).Nodup := by
  obtain ⟨_, _, _, _, _, _, h⟩ := h
  exact h
theorem roots1 {S : List (Arr × Value)} {kvs : List (Str × Value)} {a b : Int} (hn : (kvs.map (·.1)).Nodup) (k1 : AB kvs) (vA : VarOK S kvs "A" a) (vB : VarOK S kvs "B" b) :
    ∀ k y, valueAt kvs k = some y → (∃ s t, y = Value.str s t) ∨ ∃ j ∈ rtsOf a b, At S j y := by
  intro k y hk
  have hm := (keysDict hn).mpr hk
  rcases k1 k (List.mem_map.mpr ⟨_, hm, rfl⟩) with rfl | rfl
  · rcases vA with ⟨_, h⟩ | ⟨h0, y', hy, ha⟩
    · exact .inl (h y hk)
    · rw [hk] at hy
      obtain rfl := Option.some.inj hy
      exact .inr ⟨_, by simp [rtsOf, h0], ha⟩
  · rcases vB with ⟨_, h⟩ | ⟨h0, y', hy, ha⟩
    · exact .inl (h y hk)
    · rw [hk] at hy
      obtain rfl := Option.some.inj hy
      exact .inr ⟨_, by simp [rtsOf, h0], ha⟩
theorem roots2 {S : List (Arr × Value)} {kvs : List (Str × Value)} {a b : Int} (vA : VarOK S kvs "A" a) (vB : VarOK S kvs "B" b) :
    ∀ j ∈ rtsOf a b, ∃ k y, valueAt kvs k = some y ∧ At S j y := by
  intro j hj
  rcases List.mem_append.mp hj with hj | hj
  · split at hj
    · rcases vA with ⟨h, _⟩ | ⟨_, y, hy, ha⟩
      · omega
      · rw [List.mem_singleton.mp hj]; exact ⟨_, y, hy, ha⟩
    · cases hj
  · split at hj
    · rcases vB with ⟨h, _⟩ | ⟨_, y, hy, ha⟩
      · omega
      · rw [List.mem_singleton.mp hj]; exact ⟨_, y, hy, ha⟩
    · cases hj
/-- what the law's own list `alive` holds, with what is still to be looked at -/
structure AInv (inner : List Int) (al : List Nat) (done : List Int) (at_ : Int) : Prop where
  rch : ∀ rts : List Nat, (∀ d ∈ done, 0 ≤ d → d.toNat ∈ rts) → (∀ j ∈ al, Rch inner rts j) ∧ (0 ≤ at_ → Rch inner rts at_.toNat)
  clo : ∀ j ∈ al, ∀ k, inner[j]? = some k → 0 ≤ k → k.toNat ∈ al ∨ k = at_
  top : ∀ d ∈ done, 0 ≤ d → d.toNat ∈ al ∨ d = at_
  lt : ∀ j ∈ al, j < inner.length
  nod : al.Nodup
theorem AInv.init {inner : List Int} : AInv inner [] [] (-1) := ⟨fun _ _ => ⟨(fun _ h => nomatch h), fun h => by omega⟩, (fun _ h => nomatch h), (fun _ h => nomatch h), (fun _ h => nomatch h), .nil⟩
/-- the walk of one name ends -/
theorem AInv.stop {inner : List Int} {al : List Nat} {done : List Int} {at_ : Int} (x : AInv inner al done at_) (h : at_ < 0 ∨ at_.toNat ∈ al) : AInv inner al done (-1) := by
  refine ⟨fun rts hr => ⟨(x.rch rts hr).1, fun h => by omega⟩, fun j hj k hk h0 => ?_, fun d hd h0 => ?_, x.lt, x.nod⟩
  · rcases x.clo j hj k hk h0 with h1 | rfl
    · exact .inl h1
    · rcases h with h | h
      · omega
      · exact .inl h
  · rcases x.top d hd h0 with h1 | rfl
    · exact .inl h1
    · rcases h with h | h
      · omega
      · exact .inl h
/-- the next name -/
theorem AInv.name {inner : List Int} {al : List Nat} {done : List Int} (x : AInv inner al done (-1)) (d : Int) : AInv inner al (done ++ [d]) d := by
  refine ⟨fun rts hr => ⟨(x.rch rts fun e he => hr e (List.mem_append_left _ he)).1, fun h => .root (hr d (by simp) h)⟩, fun j hj k hk h0 => ?_, fun e he h0 => ?_, x.lt, x.nod⟩
  · rcases x.clo j hj k hk h0 with h1 | rfl
    · exact .inl h1
    · omega
  · rcases List.mem_append.mp he with he | he
    · rcases x.top e he h0 with h1 | rfl
      · exact .inl h1
      · omega
    · exact .inr (List.mem_singleton.mp he)
/-- one step along the chain -/
theorem AInv.step {inner : List Int} {al : List Nat} {done : List Int} {at_ k : Int} (x : AInv inner al done at_) (h0 : 0 ≤ at_) (hn : at_.toNat ∉ al) (hk : inner[at_.toNat]? = some k) : AInv inner (al ++ [at_.toNat]) done k := by
  refine ⟨fun rts hr => ⟨fun j hj => ?_, fun h => .step ((x.rch rts hr).2 h0) hk h⟩, fun j hj k' hk' h0' => ?_, fun d hd h0' => ?_, fun j hj => ?_, ?_⟩
  · rcases List.mem_append.mp hj with hj | hj
    · exact (x.rch rts hr).1 j hj
    · rw [List.mem_singleton.mp hj]; exact (x.rch rts hr).2 h0
  · rcases List.mem_append.mp hj with hj | hj
    · rcases x.clo j hj k' hk' h0' with h1 | rfl
      · exact .inl (List.mem_append_left _ h1)
      · exact .inl (by simp)
    · rw [List.mem_singleton.mp hj, hk] at hk'
      exact .inr (Option.some.inj hk').symm
  · rcases x.top d hd h0' with h1 | rfl
    · exact .inl (List.mem_append_left _ h1)
    · exact .inl (by simp)
  · rcases List.mem_append.mp hj with hj | hj
    · exact x.lt j hj
    · rw [List.mem_singleton.mp hj]; exact (List.getElem?_eq_some_iff.mp hk).1
  · rw [List.nodup_append]
    exact ⟨x.nod, by simp, by simp; exact fun j hj e => hn (e ▸ hj)⟩
theorem AInv.all {inner : List Int} {al : List Nat} {a b : Int} (x : AInv inner al [a, b] (-1)) (j : Nat) : j ∈ al ↔ Rch inner (rtsOf a b) j := by
  refine ⟨fun h => (x.rch (rtsOf a b) ?_).1 j h, fun h => ?_⟩
  · intro d hd h0
    simp only [List.mem_cons, List.not_mem_nil, or_false] at hd
    rcases hd with rfl | rfl <;> simp [rtsOf, h0]
  · induction h with
    | root h =>
      rcases List.mem_append.mp h with h | h
      · split at h
        · rename_i h0
          rw [List.mem_singleton.mp h]
          rcases x.top a (by simp) h0 with h1 | rfl
          · exact h1
          · omega
        · cases h
      · split at h
        · rename_i h0
          rw [List.mem_singleton.mp h]
          rcases x.top b (by simp) h0 with h1 | rfl
          · exact h1
          · omega
        · cases h
    | step _ hk h0 ih =>
      rcases x.clo _ ih _ hk h0 with h1 | rfl
      · exact h1
      · omega
section
variable {prog : Program} {w : World} {A : Around} {E : Value → Shared → Prop} {env : Env} {h₀ : Heap}
theorem comp_LA {s : Shared} {elt iter : Expr} {x y : Str} {px py : Pos} {ifs : List Expr} {scope : Scope} {pos spos : Pos} {Q : Flow → Shared → Prop} (cl : List (Str × Addr)) (p : Value → Bool) (Fv : Value → Value → Prop)
    (hsw : swapsWith (.ListComp elt [⟨.Name x px, iter, ifs, 0⟩] scope pos) (some (.Name y py)) spos.line env = pure true)
    (hclos : closureFor scope env = pure cl) (hcell : ∀ z ∈ scope.names, z.2 ≠ .cell) (hkind : scope.kind = .function)
    (hnames : ∀ z ∈ scope.names, z.2 = .local → scope.names.lookup z.1 = some .local) (hx : scope.names.lookup x = some .local) 
    (hy : env.kindOf y = some .local) (hp : (env.scope.kind == .class || (env.scope.kind == .module && env.locals != env.globals)) = false) (hh : A.handled = none)
    (h : wpAny (model prog w) A (eval iter env) (fun xv s₁ => ∃ (l : Addr) (vs : List Value) (c : Nat) (m : Str → Option Value) (news : Led), xv = .ref l ∧ Fr h₀ env.locals s₁.heap m ∧ News h₀ env.locals s₁.heap news ∧ (l, listOf vs.toArray c) ∈ news ∧ vs.length ≤ 1000 ∧
      Quiet prog w A env scope cl x ifs elt p Fv h₀ env.locals m news vs ∧
      (∀ D h' tk c' (ys : List Value), Fr h₀ env.locals h' (fun z => if z = y then some (.ref D) else m z) → News h₀ env.locals h' ((D, listOf ys.toArray c') :: news) → NeAll D news → Paired Fv (vs.filter p) ys → Q .next { s₁ with heap := h', toks := tk })) E s)
    (hs : ∀ x, foldedSetIterable iter env x = pure x := by intro _; rfl) :
    wpAny (model prog w) A (exec (.Assign [.Name y py] (.ListComp elt [⟨.Name x px, iter, ifs, 0⟩] scope pos) spos) env) Q E s := by
  refine wpAny_Assign_ListComp_free p Fv hsw hclos hcell hkind hnames hx hy hp (wpAny_mono h (fun xv s₁ h₁ => ?_) fun _ _ e => e) hs
  obtain ⟨l, vs, c, m, news, rfl, F, N, hm, hn, hq, hQ⟩ := h₁
  have hls : s₁.heap.IsList l vs.toArray := ⟨_, (N _ hm).1, rfl, c, rfl⟩
  have hlt : l < s₁.heap.objs.size := Heap.lt_size (N _ hm).1
  have hne : l ≠ s₁.heap.objs.size := Nat.ne_of_lt hlt
  obtain ⟨oL, x1, x2, hoL, x3⟩ := F.ns
  have hLlt : env.locals < s₁.heap.objs.size := Heap.lt_size hoL
  have hLI : env.locals ≠ s₁.heap.objs.size := Nat.ne_of_lt hLlt
  refine wpAny_pyIter_list hls ?_
  refine ⟨s₁.heap.objs.size, [s₁.heap.objs.size, l], [s₁.heap.objs.size], vs.toArray.size, _, _, m, rfl, Walks.list hh _ l hne vs.toArray, by rw [List.size_toArray, sizeLine_eq]; omega,
    ⟨⟨_, Heap.get?_push_size _ rfl, rfl, rfl⟩, hls.at fun o e => Heap.get?_push_of_some _ e⟩, ?_, ?_, ⟨oL, x1, x2, Heap.get?_push_of_some _ hoL, x3⟩, ⟨?_, ?_⟩, ?_⟩
  · intro b hb
    rw [Heap.size_push]
    simp only [List.mem_cons, List.not_mem_nil, or_false] at hb
    rcases hb with rfl | rfl
    · exact Nat.lt_succ_self _
    · exact Nat.lt_succ_of_lt hlt
  · intro hm'
    exact hLI (List.mem_singleton.mp hm')
  · intro C i v s₃ m₃ E' _ hP hns hv hk _
    obtain ⟨F₃, N₃⟩ := comp_lift (l := l) F N s₃.heap hk
    exact hq.tests C v s₃ m₃ E' (List.mem_of_getElem? (by simpa using hP)) hns hv F₃ N₃
  · intro C i v s₃ m₃ E' _ hP hpv hns hv hk _
    obtain ⟨F₃, N₃⟩ := comp_lift (l := l) F N s₃.heap hk
    exact hq.elt C v s₃ m₃ E' (List.mem_of_getElem? (by simpa using hP)) hpv hns hv F₃ N₃
  · intro D h' tk ys ws hD hl hpl hlen hP hF hns' hk
    have old : ∀ b o, b ≠ env.locals → s₁.heap.get? b = some o → h'.get? b = some o := fun b o hb e => hk b o hb (by
      simp only [List.mem_singleton]
      exact Nat.ne_of_lt (Heap.lt_size e)) (Heap.get?_push_of_some _ e)
    obtain rfl := vs_eq hlen hP
    obtain ⟨c', hc'⟩ := hpl
    have hDold : ∀ b o, s₁.heap.get? b = some o → b ≠ D := fun b o e q => by
      subst q
      have := Heap.get?_push_of_some { cls := .type "list_iterator", data := .fields #[.ref l, .int 0 0] } e
      simp only at hD this
      rw [hD] at this; cases this
    have hnl : h₀.get? env.locals = none := by
      cases q : h₀.get? env.locals with
      | none => rfl
      | some o => exact absurd (Nat.lt_of_lt_of_le (Heap.lt_size q) F.above) (Nat.lt_irrefl _)
    refine hQ D h' tk c' ys.toList ⟨hns', fun b o e => old b o (fun q => by subst q; rw [hnl] at e; cases e) (F.keep b o e), F.above⟩ (fun q hq => ?_) (neAll_of fun q hq e => hDold q.1 q.2 (N q hq).1 e.symm) hF
    rcases List.mem_cons.mp hq with rfl | hq
    · refine ⟨by simpa using hc', fun e => hDold env.locals oL hoL e.symm, ?_⟩
      cases q : h₀.get? D with
      | none => rfl
      | some o => exact absurd rfl (hDold D o (F.keep D o q))
    · exact ⟨old _ _ (N q hq).2.1 (N q hq).1, (N q hq).2⟩
end
noncomputable abbrev collBase (w : World) (S : St) : Led := S.led w
theorem fr_eq {h₀ h : Heap} {L : Addr} {m m' : Str → Option Value} (F : Fr h₀ L h m) (e : ∀ y, m' y = m y) : Fr h₀ L h m' := (funext e : m' = m) ▸ F
noncomputable def inA (al : List Nat) (v : Value) : Bool := match v with
  | .int k _ => (al.map fun j => ((j : Nat) : Int)).any fun x => x == k
  | _ => false
theorem inA_filter {al : List Nat} : ∀ {hv : List Value} {hl : List Nat}, IntsAre hv (hl.map fun j => ((j : Nat) : Int)) → IntsAre (hv.filter (inA al)) ((hl.filter fun j => decide (j ∈ al)).map fun j => ((j : Nat) : Int))
  | [], [], _ => .nil
  | v :: hv, j :: hl, h => by
    cases h with
    | cons _ t h =>
    have ih := inA_filter (al := al) h
    have e : inA al (Value.int ((j : Nat) : Int) t) = decide (j ∈ al) := by
      unfold inA
      by_cases hj : j ∈ al
      · rw [decide_eq_true hj, List.any_eq_true]
        exact ⟨_, List.mem_map.mpr ⟨j, hj, rfl⟩, beq_self_eq_true _⟩
      · rw [decide_eq_false hj, List.any_eq_false]
        intro x hx e
        obtain ⟨i, hi, rfl⟩ := List.mem_map.mp hx
        have : i = j := by have := beq_iff_eq.mp e; omega
        exact hj (this ▸ hi)
    rw [List.filter_cons, List.filter_cons, e]
    cases decide (j ∈ al)
    · exact ih
    · exact .cons _ t ih
theorem ints_mem : ∀ {hv : List Value} {ns : List Int}, IntsAre hv ns → ∀ v ∈ hv, ∃ k t, v = Value.int k t
  | _, _, .nil, _, h => nomatch h
  | _, _, .cons k t h, v, hv => by
    rcases List.mem_cons.mp hv with rfl | hv
    · exact ⟨k, t, rfl⟩
    · exact ints_mem h v hv
theorem ints_nat_mem : ∀ {hv : List Value} {l : List Nat}, IntsAre hv (l.map fun j => ((j : Nat) : Int)) → ∀ v ∈ hv, ∃ j ∈ l, ∃ t, v = Value.int ((j : Nat) : Int) t
  | [], _, _, _, h => nomatch h
  | v :: hv, j :: l, h, u, hu => by
    cases h with
    | cons _ t h =>
    rcases List.mem_cons.mp hu with rfl | hu
    · exact ⟨j, .head _, t, rfl⟩
    · obtain ⟨i, hi, t, e⟩ := ints_nat_mem h u hu
      exact ⟨i, .tail _ hi, t, e⟩
theorem ints_nums {S : List (Arr × Value)} (hi : Inj S) : ∀ {l : List Nat} {hs ys : List Value}, Paired (At S) l hs → Paired (fun v y => ∃ (j : Nat) (t : Tok), At S j v ∧ y = Value.int ((j : Int) + 1) t) hs ys → IntsAre ys (l.map fun j => ((j : Nat) : Int) + 1)
  | _, _, _, .nil, .nil => .nil
  | _, _, _, .cons ha p, .cons hb q => by
    obtain ⟨j, t, hj, rfl⟩ := hb
    have := hj.inj hi ha
    subst this
    exact .cons _ t (ints_nums hi p q)
theorem ints_nums2 : ∀ {l : List Nat} {vs zs : List Value}, IntsAre vs (l.map fun j => ((j : Nat) : Int)) → Paired (fun v y => ∃ (j : Nat) (t t' : Tok), v = Value.int (j : Int) t ∧ y = Value.int ((j : Int) + 1) t') vs zs → IntsAre zs (l.map fun j => ((j : Nat) : Int) + 1)
  | [], _, _, .nil, .nil => .nil
  | i :: l, _, _, .cons _ u h, .cons hb q => by
    obtain ⟨j, t, t', e, rfl⟩ := hb
    have := (Value.int.inj e).1
    rw [← this]
    exact .cons _ t' (ints_nums2 h q)
theorem any_mem {al : List Nat} {k : Int} (h : ((al.map fun j => ((j : Nat) : Int)).any fun x => x == k) = true) (h0 : 0 ≤ k) : k.toNat ∈ al := by
  obtain ⟨x, hx, e⟩ := List.any_eq_true.mp h
  obtain ⟨j, hj, rfl⟩ := List.mem_map.mp hx
  have : k = ((j : Nat) : Int) := (beq_iff_eq.mp e).symm
  rw [this]
  exact hj
theorem any_not_mem {al : List Nat} {k : Int} (h : ((al.map fun j => ((j : Nat) : Int)).any fun x => x == k) = false) (h0 : 0 ≤ k) : k.toNat ∉ al := fun hm => by
  rw [List.any_eq_false] at h
  exact h _ (List.mem_map.mpr ⟨_, hm, rfl⟩) (beq_iff_eq.mpr (by omega))
theorem ints_snoc {k : Int} {t : Tok} : ∀ {av : List Value} {ns : List Int}, IntsAre av ns → IntsAre (av ++ [Value.int k t]) (ns ++ [k])
  | _, _, .nil => .cons k t .nil
  | _, _, .cons x u h => .cons x u (ints_snoc h)
theorem coll_C (w : World) (S : St) (ok : S.Ok w) (hc : S.inner.length ≤ 10) :
  Spec w 302 7 330 [.ref S.wi, .ref S.kw] (S.led w) (fun r ft => r = .bool true ∧ ∃ S' : St, S'.Ok w ∧ ft = S'.led w ∧ S'.wi = S.wi ∧ S'.kw = S.kw ∧ S'.T = S.T ∧ S'.inner = S.inner) := by
  k_with_none
  k_with "eval ListComp" => (k_here; refine stop_ ?_)
  k_with "eval Name" => (k_here; k_dflt (refine' nameX_B ?zF ?zX ?zT ?ze ?zv ?zn ?_ ?za ?zb; (case zb => rfl); (case za => rfl); (case zF => k_asm); (case zX => k_asm); (case zT => k_asm); (case ze => k_is); (case zv => boot_by_name); (case zn => decide); k_whole))
  k_with "eval Name" => (k_here; k_inBlock; k_dflt (refine' wpAny_Name (wpAny_loadName_local ?za ?zb ?zn ?zv ?_) ?zd; (case za => rfl); (case zb => rfl); (case zn => assumption); (case zv => assumption); (case zd => decide)))
  k_with "eval Name" => (k_here; k_inBlock; k_dflt (refine' wpAny_Name (wpAny_loadName_cell ?za ?zb ?zc ⟨_, ?zg, ?ze⟩ ?_) ?zd; (case za => rfl); (case zb => rfl); (case zc => rfl); (case zg => exact News.get (by k_asm) (by k_mem)); (case ze => k_asm); (case zd => decide)))
  k_with "exec For Name List cons nil" => (k_here; refine stop_ ?_)
  k_with "call ref" => (k_here; refine stop_ ?_)
  k_with "getItem ref str" => (k_here; k_dflt (refine' wpAny_getItem_of (knd := PySem.strKind _ _) (strKind_is _ _ _ _) (kda_dict ?zN ?zm ?zd).mapOf ?zv ?_; (case zN => k_asm); (case zm => k_mem); (case zd => assumption); (case zv => assumption)))
  k_with "exec While BoolOp cons nil" => (k_here; refine stop_ ?_)
  k_with "pyIter ref" => (refine stop_ ?_)
  k_with "exec Assign cons ListComp" => (k_here; refine stop_ ?_)
  k_with "call builtin:len" => (k_here; (with_reducible show wpAny _ _ (call (Value.builtin "len") [Value.ref _]) _ _ _); k_dflt (refine' len_L ?zN ?zm ?zf ?_; (case zN => k_asm); (case zm => k_mem); (case zf => (simp only [List.size_toArray]; omega))); (try simp only [List.size_toArray]))
  k_with "subscriptTail" => (k_here; (with_reducible show wpAny _ _ (subscriptTail _ _ (Value.ref _) (Value.int _ _)) _ _ _); k_dflt (refine' item_L ?zN ?zm ?zh0 ?zhf ?zhx ?_; (case zN => k_asm); (case zm => k_mem); (case zhx => assumption); (case zh0 => omega); (case zhf => omega)))
  k_with "subscriptTail" => (k_here; (with_reducible show wpAny _ _ (subscriptTail _ _ (Value.ref _) (Value.str _ _)) _ _ _); k_dflt (refine kda_item (knd := PySem.strKind _ _) (v := Value.ref _) (by k_asm) (by k_mem) (by k_asm) (strKind_is _ _ _ _) (by rfl) ?_))
  k_with "WhileStep2" => (refine stop_ ?_)
  k_with "UnrPost" => (refine stop_ ?_)
  k_with "Exists" => (refine stop_ ?_)
  intro cn cs a ccd cl outer A₀ base h₀ L m s Q E p loose mean mg mb rest B F X N T hk hap hret
  revert X; k_fill; intro X
  have hnd := ok.nd
  have hnd0 := Kp.mk ok.nd
  have hkd := ok.kd
  have hvd := ok.vd
  have hsd := ok.sd
  dsimp only [SD] at hkd hvd hsd
  have hiv := ok.iv
  have hhv := ok.hv
  have lo1 := ok.lo1
  have lo2 := ok.lo2
  have lo3 := ok.lo3
  dsimp only [St.led, cwLed] at *
  generalize hR : cellsLed w S.cells = R at *
  simp only [NDL, NeAll] at hnd
  refine hideG fun gP gK => ?_
  repeat (rename _ ∧ _ => hc; rcases hc with ⟨_, _⟩)
  refine gK ?_
  clear gK gP
  refine wpAny_call ?_
  k_dflt (refine' foot_codeC _ B F X N T ?kA ?kF ?kK hap ?k6 ?k7 ?k8 ?k9 ?kB ?kD ?_ hret ?c2 ?c3 ?c4; (case kA => exact rfl); (case kF => exact rfl); (case kK => exact hk); (case k6 => k_is); (case k7 => k_is); (case k8 => k_room); (case k9 => exact BindsTo.of_eq rfl); (case kB => exact rfl); (case kD => decide +kernel); (case c2 => exact rfl); (case c3 => exact rfl); (case c4 => exact rfl))
  clear hret N F X T B hap
  intro g' L' h' tk' cells' F' N' Y' B' X' T' l1
  have hc1 : NeAll (L' + 1) _ := neAll_of fun q hq e => by
    have h1 : @LT.lt Nat _ q.1 L' := l1 q hq
    have h2 : @Eq Nat (L' + 1) q.1 := e
    omega
  have hc2 : NeAll (L' + 1 + 1) _ := neAll_of fun q hq e => by
    have h1 : @LT.lt Nat _ q.1 L' := l1 q hq
    have h2 : @Eq Nat (L' + 1 + 1) q.1 := e
    omega
  have hcc : NE (L' + 1 + 1) (L' + 1) := Nat.succ_ne_self _
  simp only [NeAll] at hc1 hc2
  refine hideG fun gP gK => ?_
  repeat (rename _ ∧ _ => hc; rcases hc with ⟨_, _⟩)
  refine gK ?_
  clear gK gP
  clear l1
  k_cells Y'
  (try simp only [List.cons_append, List.nil_append] at N')
  (try dsimp only)
  (try k_lift B')
  (try k_fold)
  rename_i o1 o2 e1 e2
  have d1 : o1.data = Data.cell none := e1.trans (by with_unfolding_all rfl)
  have d2 : o2.data = Data.cell (some (.ref S.kw)) := e2.trans (by with_unfolding_all rfl)
  have F₀ : Fr g' L' h' (fun y => if y = Str.ofString "world" then some (Value.ref S.wi) else none) := by with_unfolding_all exact F'
  clear e1 e2 F'
  k_steps
  unfold Stop
  rename Fr _ _ _ _ => F1
  with_unfolding_all refine' For_invVF F1 ?k1 ?k2 ?_
  case k1 => exact rfl
  case k2 => exact rfl
  k_whole
  k_steps
  unfold Stop
  rename_i AL _ lAL _ o3 d3 LS h2 F2 N2 lLS
  clear d1
  have nAL := NE.gt lAL.1
  have nAL2 := NE.gt lAL.2.1
  obtain ⟨tkA, rfl⟩ : ∃ x, x = tk := ⟨_, rfl⟩
  refine iter_L (vs := [Value.str (Str.ofString "A") tkA, Value.str (Str.ofString "B") (tkA + 1)]) (c := 0) (fun r mm nx => ∃ (al : List Nat) (av : List Value) (nA : Nat) (done : List Int),
    nx = (LS, listOf #[Value.str (Str.ofString "A") tkA, Value.str (Str.ofString "B") (tkA + 1)] 0) :: (AL, listOf av.toArray nA) :: (L' + 1 + 1, o3) :: (L' + 1, o2) :: collBase w S ∧
    mm (Str.ofString "world") = some (.ref S.wi) ∧ AInv S.inner al done (-1) ∧ IntsAre av (al.map fun j => ((j : Nat) : Int)) ∧
    ((r = [Value.str (Str.ofString "A") tkA, Value.str (Str.ofString "B") (tkA + 1)] ∧ done = []) ∨ (r = [Value.str (Str.ofString "B") (tkA + 1)] ∧ done = [S.a]) ∨ (r = [] ∧ done = [S.a, S.b]))) rfl F2 N2 (.head _) ?hJ ?turn ?done
  case hJ => exact ⟨[], [], 0, [], by simp only [collBase, St.led, cwLed, hR], rfl, .init, .nil, .inl ⟨rfl, rfl⟩⟩
  case turn =>
    clear F2 N2
    intro I v r mm nx it h₁ tk₁ hit hJ₁ _ hI F₁ N₁
    obtain ⟨al, av, nA, done, rfl, hm1, hai, hav, hcase⟩ := hJ₁
    obtain ⟨nm, tn, d, td, rfl, hvl, hdl, hdone⟩ : ∃ nm tn d td, v = Value.str nm tn ∧ valueAt S.kvv nm = some (Value.int d td) ∧ d < (S.inner.length : Nat) ∧ ((r = [Value.str (Str.ofString "A") tkA, Value.str (Str.ofString "B") (tkA + 1)] ∧ done ++ [d] = []) ∨ (r = [Value.str (Str.ofString "B") (tkA + 1)] ∧ done ++ [d] = [S.a]) ∨ (r = [] ∧ done ++ [d] = [S.a, S.b])) := by
      rcases hcase with ⟨h1, h2⟩ | ⟨h1, h2⟩ | ⟨h1, h2⟩
      · obtain ⟨rfl, rfl⟩ := List.cons.inj h1
        exact ⟨_, _, _, _, rfl, ok.xa, ok.la, .inr (.inl ⟨rfl, by rw [h2]; rfl⟩)⟩
      · obtain ⟨rfl, rfl⟩ := List.cons.inj h1
        exact ⟨_, _, _, _, rfl, ok.xb, ok.lb, .inr (.inr ⟨rfl, by rw [h2]; rfl⟩)⟩
      · cases h1
    have F₂ := fr_eq F₁ (m' := fun y => if y = Str.ofString "name" then some (Value.str nm tn) else if y = Str.ofString "world" then some (Value.ref S.wi) else mm y) (fun y => by
      by_cases h0 : y = Str.ofString "name"
      · simp only [h0, if_true]
      · by_cases h1 : y = Str.ofString "world"
        · subst h1; with_unfolding_all exact hm1.symm
        · simp only [h0, h1, if_false])
    clear F₁
    have hI0 := Kp.mk hI
    dsimp only [collBase, St.led, cwLed] at N₁ hI
    rw [hR] at N₁ hI
    simp only [NeAll] at hI
    refine hideG fun gP gK => ?_
    repeat (rename _ ∧ _ => hq; rcases hq with ⟨_, _⟩)
    refine gK ?_
    clear gK gP
    k_steps
    unfold Stop
    rename_i F5 N5
    refine While_inv2 (n₀ := 2 * (S.inner.length - al.length)) (fun n mm nx => ∃ (al : List Nat) (av : List Value) (nA : Nat) (at_ : Int) (ta : Tok),
      nx = (I, it) :: (LS, listOf #[Value.str (Str.ofString "A") tkA, Value.str (Str.ofString "B") (tkA + 1)] 0) :: (AL, listOf av.toArray nA) :: (L' + 1 + 1, o3) :: (L' + 1, o2) :: collBase w S ∧
      mm (Str.ofString "world") = some (.ref S.wi) ∧ mm (Str.ofString "name") = some (.str nm tn) ∧ mm (Str.ofString "at") = some (.int at_ ta) ∧ at_ < (S.inner.length : Nat) ∧ AInv S.inner al (done ++ [d]) at_ ∧ IntsAre av (al.map fun j => ((j : Nat) : Int)) ∧
      n = 2 * (S.inner.length - al.length)) F5 N5 ?hJ ?turn
    case hJ => exact ⟨al, av, nA, d, td, by simp only [collBase, St.led, cwLed, hR], by with_unfolding_all rfl, by with_unfolding_all rfl, by with_unfolding_all rfl, hdl, hai.name d, hav, rfl⟩
    case turn =>
      clear F5 N5 hai hav hdl hcase hvl
      intro n mm5 nx h₅ tk₅ F₅ N₅ hJ₅
      obtain ⟨al, av, nA, at_, ta, rfl, hw1, hw2, hw3, hlt, hai, hav, rfl⟩ := hJ₅
      have F₆ := fr_eq F₅ (m' := fun y => if y = Str.ofString "at" then some (Value.int at_ ta) else if y = Str.ofString "name" then some (Value.str nm tn) else if y = Str.ofString "world" then some (Value.ref S.wi) else mm5 y) (fun y => by
        by_cases h0 : y = Str.ofString "at"
        · subst h0; with_unfolding_all exact hw3.symm
        · by_cases h1 : y = Str.ofString "name"
          · subst h1; with_unfolding_all exact hw2.symm
          · by_cases h2 : y = Str.ofString "world"
            · subst h2; with_unfolding_all exact hw1.symm
            · simp only [h0, h1, h2, if_false])
      clear F₅
      dsimp only [collBase, St.led, cwLed] at N₅
      rw [hR] at N₅
      have hal := nodup_len _ _ hai.nod hai.lt
      have hal2 : (al.map fun j => ((j : Nat) : Int)).length ≤ 10 := by rw [List.length_map]; omega
      have hoff : ∀ (av : List Value) (nA : Nat), ∀ p ∈ (LS, listOf #[Value.str (Str.ofString "A") tkA, Value.str (Str.ofString "B") (tkA + 1)] 0) :: (AL, listOf av.toArray nA) :: (L' + 1 + 1, o3) :: (L' + 1, o2) :: collBase w S, p.1 ≠ I := fun av nA => NeAll.mem (neAll_addrs (by simp only [List.map_cons]) hI0.out)
      by_cases h0 : at_ < 0
      · k_steps
        unfold Stop
        refine UnrEnd.intro (by assumption) (by assumption) ((LS, listOf #[Value.str (Str.ofString "A") tkA, Value.str (Str.ofString "B") (tkA + 1)] 0) :: (AL, listOf av.toArray nA) :: (L' + 1 + 1, o3) :: (L' + 1, o2) :: collBase w S) ?sub (hoff av nA) ⟨.head _, al, av, nA, done ++ [d], rfl, by with_unfolding_all rfl, hai.stop (.inl h0), hav, hdone⟩
        case sub =>
          dsimp only [collBase, St.led, cwLed]
          rw [hR]
          exact fun p hp => hp
      · k_steps
        · unfold Stop
          rename_i hany
          have hin := any_mem hany (by omega)
          refine UnrEnd.intro (by assumption) (by assumption) ((LS, listOf #[Value.str (Str.ofString "A") tkA, Value.str (Str.ofString "B") (tkA + 1)] 0) :: (AL, listOf av.toArray nA) :: (L' + 1 + 1, o3) :: (L' + 1, o2) :: collBase w S) ?sub (hoff av nA) ⟨.head _, al, av, nA, done ++ [d], rfl, by with_unfolding_all rfl, hai.stop (.inr hin), hav, hdone⟩
          case sub =>
            dsimp only [collBase, St.led, cwLed]
            rw [hR]
            exact fun p hp => hp
        · unfold Stop
          rename_i hany _ _ _ _ F7 N7
          have hin := any_not_mem hany (by omega)
          rw [List.push_toArray] at N7
          have hk : S.inner[at_.toNat]? = some (S.inner.getD at_.toNat 0) := by
            rw [List.getD_eq_getElem?_getD]
            have : at_.toNat < S.inner.length := by omega
            rw [List.getElem?_eq_getElem this]
            rfl
          have hst := hai.step (by omega) hin hk
          refine ws2_end (news₂ := (I, it) :: (LS, listOf #[Value.str (Str.ofString "A") tkA, Value.str (Str.ofString "B") (tkA + 1)] 0) :: (AL, listOf (av ++ [Value.int at_ ta]).toArray (nA + 1)) :: (L' + 1 + 1, o3) :: (L' + 1, o2) :: collBase w S) (n' := 2 * (S.inner.length - (al ++ [at_.toNat]).length)) F7 N7 ?hs ?hn ?hJ
          case hs =>
            dsimp only [collBase, St.led, cwLed]
            rw [hR]
            exact fun p hp => hp
          case hn =>
            have := nodup_len _ _ hst.nod hst.lt
            simp only [List.length_append, List.length_cons, List.length_nil] at this ⊢
            omega
          case hJ =>
            exact ⟨al ++ [at_.toNat], av ++ [Value.int at_ ta], nA + 1, _, _, rfl, by with_unfolding_all rfl, by with_unfolding_all rfl, by with_unfolding_all rfl, ok.ib _ (List.mem_of_getElem? hk), hst, by rw [List.map_append, List.map_cons, List.map_nil, show ((at_.toNat : Nat) : Int) = at_ by omega]; exact ints_snoc hav, rfl⟩
  case done =>
    clear F2 N2
    intro mm nx h₁ tk₁ hJ₁ _ F₁ N₁
    obtain ⟨al, av, nA, done, rfl, hm1, hai, hav, hcase⟩ := hJ₁
    have hdn : done = [S.a, S.b] := by
      rcases hcase with ⟨h1, _⟩ | ⟨h1, _⟩ | ⟨_, h2⟩
      · cases h1
      · cases h1
      · exact h2
    subst hdn
    clear hcase
    have hall := hai.all
    have hal := nodup_len _ _ hai.nod hai.lt
    have hal2 : (al.map fun j => ((j : Nat) : Int)).length ≤ 10 := by rw [List.length_map]; omega
    have F₂ := fr_eq F₁ (m' := fun y => if y = Str.ofString "world" then some (Value.ref S.wi) else mm y) (fun y => by
      by_cases h1 : y = Str.ofString "world"
      · subst h1; with_unfolding_all exact hm1.symm
      · simp only [h1, if_false])
    clear F₁
    have N₂ := newsSub (b := (AL, listOf av.toArray nA) :: (L' + 1 + 1, o3) :: (L' + 1, o2) :: collBase w S) N₁ (fun p hp => .tail _ hp)
    clear N₁
    dsimp only [collBase, St.led, cwLed] at N₂
    rw [hR] at N₂
    dsimp only
    k_steps
    unfold Stop
    refine' comp_LA (h₀ := g') ?cl (inA al) (fun v y => y = v) ?hsw ?hclos ?hcell ?hkind ?hnames ?hx ?hy ?hp ?hh ?_ ?hs
    case hsw => with_unfolding_all rfl
    case hclos => with_unfolding_all rfl
    case hcell => decide
    case hkind => with_unfolding_all rfl
    case hnames => decide
    case hx => with_unfolding_all rfl
    case hy => with_unfolding_all rfl
    case hp => with_unfolding_all rfl
    case hh => rfl
    case hs => intro _; with_unfolding_all rfl
    k_steps
    unfold Stop
    have hln : S.hv.length ≤ 10 := by
      have h1 := hhv.length
      rw [List.length_map] at h1
      have h2 := ok.hn
      omega
    refine ⟨S.Hd, S.hv, S.nHd, _, _, rfl, F₂, N₂, by simp only [List.mem_cons, true_or, or_true], by omega, ⟨?q1, ?q2⟩, ?q3⟩
    case q1 =>
      intro C v s₃ m₃ E' hv hns hx F₃ N₃
      obtain ⟨k, t, rfl⟩ := ints_mem hhv v hv
      refine tests1 ?_
      k_steps
      exact keeps_refl
    case q2 =>
      intro C v s₃ m₃ E' hv hp hns hx F₃ N₃
      k_steps
      exact keeps_refl
    case q3 =>
      clear F₂ N₂
      intro LF h3 tk3 nLF ys F3 N3 haL hpair
      obtain rfl := paired_eq hpair
      have hlv := inA_filter (al := al) hhv
      have hlv2 : (S.hv.filter (inA al)).length ≤ 10 := Nat.le_trans (List.length_filter_le _ _) hln
      simp only [NeAll] at haL
      refine hideG fun gP gK => ?_
      repeat (rename _ ∧ _ => hq; rcases hq with ⟨_, _⟩)
      refine gK ?_
      clear gK gP
      replace F3 : Fr g' L' h3 (fun y => if y = Str.ofString "left" then some (Value.ref LF) else if y = Str.ofString "world" then some (Value.ref S.wi) else mm y) := F3
      replace N3 : News g' L' h3 _ := N3
      dsimp only
      k_steps
      unfold Stop
      rename_i DT _ lDT _ _ _ okw2 hkd2 LX h5 F5 N5 lLX
      have hcn : S.cells.length ≤ 10 := by
        have := ok.gg.len
        rw [sk, List.length_map] at this
        omega
      have hndc : Kp (NDL (cwLed w S.H S.wi S.wd S.store S.aside S.nh S.na S.hs S.ks S.V S.made S.tm S.os S.cells)) := .mk ok.nd.2.2.2.2.2
      have hinj : Inj (sk S.cells) := inj_of_ndl hndc.out.2.2.2.2.2
      refine' Spec.use (news := _) (cwork_C w (al := LX) (H := S.H) (wi := S.wi) (wd := S.wd) (store := S.store) (aside := S.aside) (nh := S.nh) (na := S.na) (V := S.V) (made := S.made) (tm := S.tm) (ks := S.ks) (rts := rtsOf S.a S.b) (by omega) hndc.out ok.gg hinj ok.sd (by have := ab_len ok.k1 (sd_nodup ok.sd); omega) (sd_nodup ok.sd) ok.lo1 (roots1 (sd_nodup ok.sd) ok.k1 ok.vA ok.vB) (roots2 ok.vA ok.vB) ok.hp (by have := ok.hn; omega)) ((LF, listOf (S.hv.filter (inA al)).toArray nLF) :: (AL, listOf av.toArray nA) :: (L' + 1 + 1, o3) :: (L' + 1, o2) :: (S.kw, okw2) :: (S.va, S.ova) :: (S.T, listOf S.tv.toArray S.nT) :: [(S.I, listOf S.iv.toArray S.nI)]) ?B ?F ?X ?N ?T ?K ?hs (apart_of ?ha) ?_
      case B => assumption
      case F => assumption
      case X => assumption
      case N => assumption
      case T => assumption
      case K => rfl
      case hs =>
        dsimp only [cwLed]
        rw [hR]
        intro p hp
        simp only [List.cons_append, List.nil_append, List.mem_cons, List.mem_append, List.not_mem_nil, or_false] at hp ⊢
        rcases hp with h | h | h | h | h | h | h | h | h | h | h | h | h | h <;> simp only [h, true_or, or_true]
      case ha =>
        dsimp only [cwLed]
        rw [hR]
        refine apartL_flip ?_
        simp only [ApartL, NeAll, and_true]
        (repeat' refine And.intro ?_ ?_) <;> first | assumption | (refine NE.symm ?_; assumption) | (refine NE.gt ?_; assumption) | (refine neAll_lt ?_; assumption)
      clear F5 N5 lLX lDT
      intro r6 ft6 h6 tk6 hP F6 N6 ha6 _
      obtain ⟨H2, hs2, nh2, cs2, p2, n2, t2, hr6, rfl, hnd6, hsk, hp2, hpr, hsum⟩ := hP
      have hpe : p2 = fun j => decide (j ∈ al) := funext fun j => by rw [Bool.eq_iff_iff, hp2, decide_eq_true_iff, hall]
      subst hpe
      have hn2 : ((n2 : Nat) : Int) = ((S.hv.length : Nat) : Int) - (((S.hv.filter (inA al)).length : Nat) : Int) := by
        have h1 := hlv.length
        have h2 := hhv.length
        rw [List.length_map] at h1 h2
        omega
      rw [hn2] at hr6
      subst hr6
      have hnd7 := Kp.mk hnd6
      replace ha6 := apartL_flip (apartL_of ha6)
      dsimp only [cwLed] at N6 ha6 hnd6
      generalize hR2 : cellsLed w cs2 = R2 at N6 ha6 hnd6
      simp only [List.cons_append, List.nil_append, ApartL, NeAll, NDL, and_true] at ha6 hnd6
      have N7 := newsSub (b := (LF, listOf (S.hv.filter (inA al)).toArray nLF) :: (AL, listOf av.toArray nA) :: (L' + 1 + 1, o3) :: (L' + 1, o2) :: (S.kw, okw2) :: (S.va, S.ova) :: (S.T, listOf S.tv.toArray S.nT) :: (S.I, listOf S.iv.toArray S.nI) :: (S.aside, listOf #[] S.na) :: (H2, listOf hs2.toArray nh2) :: (S.wi, instObj 231 S.wd) :: (S.wd, dictOf (wEs w S.ks S.V S.store S.aside H2 S.made S.tm) 26) :: (S.store, S.os) :: R2) N6 (by
        intro p hp
        simp only [List.cons_append, List.mem_cons, List.mem_append, List.not_mem_nil, or_false] at hp ⊢
        rcases hp with h | h | h | h | h | h | h | h | h | h | h | h | h | h <;> simp only [h, true_or, or_true])
      clear N6
      rename News _ _ _ _ => N6
      refine hideG fun gP gK => ?_
      repeat (rename _ ∧ _ => hq; rcases hq with ⟨_, _⟩)
      refine gK ?_
      clear gK gP
      k_steps
      · rename_i hne
        exact absurd rfl hne
      unfold Stop
      refine' comp_L (h₀ := g') (L := L') ?cl2 (fun _ => true) (fun v y => ∃ (j : Nat) (t : Tok), At (sk S.cells) j v ∧ y = Value.int ((j : Int) + 1) t) ?hclos ?hcell ?hkind ?hnames ?hx ?hh ?_ ?hs
      case hclos => with_unfolding_all rfl
      case hcell => decide
      case hkind => with_unfolding_all rfl
      case hnames => decide
      case hx => with_unfolding_all rfl
      case hh => rfl
      case hs => intro _; with_unfolding_all rfl
      k_steps
      unfold Stop
      have hl2 : hs2.length ≤ 10 := by
        rw [← paired_len hpr]
        have h1 := List.length_filter_le (fun j => decide (j ∈ al)) S.hl
        have h2 := ok.hn
        omega
      refine ⟨_, hs2, nh2, _, _, rfl, by assumption, N6, by simp only [List.mem_cons, true_or, or_true], by omega, ⟨?q1, ?q2⟩, ?q3⟩
      case q1 =>
        intro C v s₃ m₃ E' hv hns hx F₃ N₃
        rw [List.forIn_nil]
        exact wpAny_pure ⟨rfl, keeps_refl⟩
      case q2 =>
        intro C v s₃ m₃ E' hv hp hns hx F₃ N₃
        obtain ⟨j, hj, ha⟩ := paired_right hpr v hv
        obtain ⟨c, hc, rfl⟩ := at_cell hsk ha
        have N₄ := newsSub (b := (cellLed w c)) N₃ (fun p hp => by
          simp only [List.mem_cons]
          iterate 13 refine .inr ?_
          rw [← hR2]
          exact (cells_perm w hc).mem_iff.mpr (List.mem_append_left _ hp))
        have hnum : c.x.num = ((j : Nat) : Int) + 1 := ok.gg.num j (c.x, c.v0) (by rw [← hsk]; simp [sk, hc])
        dsimp only [cellLed, arrLed] at N₄
        clear N₃
        k_steps
        · unfold Stop
          exact ⟨j, _, ha, by rw [hnum]⟩
        · exact keeps_same
      case q3 =>
        intro L8 h8 tk8 n8 ys F8 F8N ha8 hpair8
        rw [List.filter_eq_self.mpr (fun _ _ => rfl)] at hpair8
        clear N6
        simp only [NeAll, and_true] at ha8
        refine hideG fun gP gK => ?_
        repeat (rename _ ∧ _ => hq; rcases hq with ⟨_, _⟩)
        refine gK ?_
        clear gK gP
        have hys := ints_nums hinj hpr hpair8
        k_steps
        unfold Stop
        refine' comp_L (h₀ := g') (L := L') ?cl3 (fun _ => true) (fun v y => ∃ (j : Nat) (t t' : Tok), v = Value.int (j : Int) t ∧ y = Value.int ((j : Int) + 1) t') ?hclos ?hcell ?hkind ?hnames ?hx ?hh ?_ ?hs
        case hclos => with_unfolding_all rfl
        case hcell => decide
        case hkind => with_unfolding_all rfl
        case hnames => decide
        case hx => with_unfolding_all rfl
        case hh => rfl
        case hs => intro _; with_unfolding_all rfl
        k_steps
        unfold Stop
        refine ⟨_, S.hv.filter (inA al), nLF, _, _, rfl, by assumption, F8N, by simp only [List.mem_cons, true_or, or_true], by omega, ⟨?q1, ?q2⟩, ?q3⟩
        case q1 =>
          intro C v s₃ m₃ E' hv hns hx F₃ N₃
          rw [List.forIn_nil]
          exact wpAny_pure ⟨rfl, keeps_refl⟩
        case q2 =>
          intro C v s₃ m₃ E' hv hp hns hx F₃ N₃
          obtain ⟨j, hj, t, rfl⟩ := ints_nat_mem hlv v hv
          obtain ⟨u, hu, ha⟩ := paired_left ok.hp j (List.mem_filter.mp hj).1
          obtain ⟨c, hc, rfl⟩ := at_cell hsk ha
          have N₄ := newsSub (b := (L' + 1, o2) :: (S.kw, okw2) :: (S.T, listOf S.tv.toArray S.nT) :: (cellLed w c)) N₃ (fun p hp => by
            simp only [List.mem_cons] at hp ⊢
            rcases hp with h | h | h | h
            · simp only [h, true_or, or_true]
            · simp only [h, true_or, or_true]
            · simp only [h, true_or, or_true]
            · iterate 14 refine .inr ?_
              rw [← hR2]
              exact (cells_perm w hc).mem_iff.mpr (List.mem_append_left _ (by simpa only [List.mem_cons] using h)))
          have hnum : c.x.num = ((j : Nat) : Int) + 1 := ok.gg.num j (c.x, c.v0) (by rw [← hsk]; simp [sk, hc])
          have hc2 : (sk S.cells)[j]? = some (c.x, c.v0) := by rw [← hsk]; simp [sk, hc]
          obtain ⟨c0, hc0, hcx⟩ : ∃ c0, S.cells[j]? = some c0 ∧ (c0.x, c0.v0) = (c.x, c.v0) := by simpa [sk] using hc2
          have hjl : j < 10 := by
            have := (List.getElem?_eq_some_iff.mp hc0).1
            omega
          have hi1 : (0 : Int) ≤ ((j : Nat) : Int) := by omega
          have hi2 : ((j : Nat) : Int) < 2 ^ 63 := by omega
          have hi3 : S.tv.toArray[(((j : Nat) : Int)).toNat]? = some (Value.ref c.x.a) := by
            rw [ok.tv, ← (Prod.mk.inj hcx).1]
            simp [hc0]
          dsimp only [cellLed, arrLed] at N₄
          clear N₃
          k_steps
          · unfold Stop
            exact ⟨j, _, _, rfl, by rw [hnum]⟩
          · exact keeps_same
        case q3 =>
          intro L9 h9 tk9 n9 zs F9 N9 ha9 hpair9
          rw [List.filter_eq_self.mpr (fun _ _ => rfl)] at hpair9
          have hzs := ints_nums2 hlv hpair9
          clear F8N
          simp only [NeAll, and_true] at ha9
          refine hideG fun gP gK => ?_
          repeat (rename _ ∧ _ => hq; rcases hq with ⟨_, _⟩)
          refine gK ?_
          clear gK gP
          k_steps
          refine' FootEnd.intro (foot' := St.led w { S with Hd := LF, nHd := nLF, hv := S.hv.filter (inA al), okw := okw2, H := H2, nh := nh2, hs := hs2, cells := cs2, hl := S.hl.filter fun j => decide (j ∈ al) }) (by assumption) (newsSub (by assumption) ?h1) ⟨rfl, { S with Hd := LF, nHd := nLF, hv := S.hv.filter (inA al), okw := okw2, H := H2, nh := nh2, hs := hs2, cells := cs2, hl := S.hl.filter fun j => decide (j ∈ al) }, ?h2, rfl, rfl, rfl, rfl, rfl⟩
          case h1 =>
            dsimp only [St.led, cwLed]
            rw [hR2]
            intro p hp
            simp only [List.mem_cons] at hp ⊢
            rcases hp with h | h | h | h | h | h | h | h | h | h | h <;> simp only [h, true_or, or_true]
          case h2 =>
            have hS : sk cs2 = sk S.cells := hsk
            refine { nd := ?nd, gg := ?gg, kd := hkd2, vd := ok.vd, sd := ok.sd, k1 := ok.k1, k2 := ok.k2, xa := ok.xa, xb := ok.xb, la := ok.la, lb := ok.lb, vA := ?vA, vB := ?vB, tv := ?tv, iv := ok.iv, hv := hlv, hp := ?hp, hn := ?hn, md := ok.md, ib := ok.ib, lo1 := ok.lo1, lo2 := ok.lo2, lo3 := ok.lo3 }
            case nd =>
              dsimp only [St.led, cwLed]
              rw [hR2]
              simp only [NDL, NeAll]
              (repeat' refine And.intro ?_ ?_) <;> first | assumption | exact trivial | (refine NE.symm ?_; assumption) | (refine NE.gt ?_; assumption) | (refine neAll_lt ?_; assumption)
            case gg => exact hS.symm ▸ ok.gg
            case vA => exact hS.symm ▸ ok.vA
            case vB => exact hS.symm ▸ ok.vB
            case hp => exact hS.symm ▸ hpr
            case hn => exact Nat.le_trans (List.length_filter_le _ _) ok.hn
            case tv =>
              have h1 := sk_x hS
              have h2 : ∀ l : List Cell, (l.map fun c => Value.ref c.x.a) = (l.map fun c => c.x).map fun x => Value.ref x.a := fun l => by rw [List.map_map]; rfl
              show S.tv = cs2.map fun c => Value.ref c.x.a
              rw [ok.tv, h2, h2, h1]
theorem Spec.wide {w : World} {dp un : Nat} {f : Addr} {vs : List Value} {foot big extra : Led} {P P' : Value → Led → Prop} (C : Spec w dp un f vs foot P) (hs : ∀ p ∈ foot ++ extra, p ∈ big) (hap : Apart foot extra)
    (hP : ∀ r ft, P r ft → Apart ft extra → ∃ ft2, P' r ft2 ∧ ∀ p ∈ ft2, p ∈ ft ++ extra) : Spec w dp un f vs big P' := by
  intro cn cs a ccd cl outer A₀ base h₀ L m s Q E p loose mean mg mb rest B F X N T hk hapb hret
  refine C.use (extra ++ rest) B F X N T hk (fun q hq => ?_) (fun q hq u hu => ?_) fun r ft h' tk' hp F' N' ha hf => ?_
  · rcases List.mem_append.mp hq with hq | hq
    · exact List.mem_append_left _ (hs q (List.mem_append_left _ hq))
    · rcases List.mem_append.mp hq with hq | hq
      · exact List.mem_append_left _ (hs q (List.mem_append_right _ hq))
      · exact List.mem_append_right _ hq
  · rcases List.mem_append.mp hu with hu | hu
    · exact hap q hq u hu
    · exact hapb q (hs q (List.mem_append_left _ hq)) u hu
  obtain ⟨ft2, h2, hsub⟩ := hP r ft hp fun q hq u hu => ha q hq u (List.mem_append_left _ hu)
  refine hret r ft2 h' tk' h2 F' (newsSub N' fun q hq => ?_) (fun q hq u hu => ?_) (fun q hq => ?_)
  · rcases List.mem_append.mp hq with hq | hq
    · rcases List.mem_append.mp (hsub q hq) with hq | hq
      · exact List.mem_append_left _ hq
      · exact List.mem_append_right _ (List.mem_append_left _ hq)
    · exact List.mem_append_right _ (List.mem_append_right _ hq)
  · rcases List.mem_append.mp (hsub q hq) with hq | hq
    · exact ha q hq u (List.mem_append_right _ hu)
    · exact hapb q (hs q (List.mem_append_right _ hq)) u hu
  · rcases List.mem_append.mp (hsub q hq) with hq | hq
    · rcases hf q hq with ⟨v, hv, e⟩ | h
      · exact .inl ⟨v, hs v (List.mem_append_left _ hv), e⟩
      · exact .inr h
    · exact .inl ⟨q, hs q (List.mem_append_right _ hq), rfl⟩
theorem cells_snoc (w : World) (cs : List Cell) (c : Cell) : cellsLed w (cs ++ [c]) = cellsLed w cs ++ cellLed w c := by
  simp only [cellsLed, List.flatMap_append, List.flatMap_cons, List.flatMap_nil, List.append_nil]
theorem at_snoc {cs : List Cell} {c : Cell} {j : Nat} {v : Value} (h : At (sk cs) j v) : At (sk (cs ++ [c])) j v := by
  obtain ⟨q, hq, e⟩ := h
  refine ⟨q, ?_, e⟩
  rw [sk, List.map_append]
  exact List.getElem?_append_left (List.getElem?_eq_some_iff.mp hq).1 ▸ hq
theorem paired_mono {α β : Type} {R R' : α → β → Prop} (h : ∀ a b, R a b → R' a b) : ∀ {x : List α} {y : List β}, Paired R x y → Paired R' x y
  | _, _, .nil => .nil
  | _, _, .cons a r => .cons (h _ _ a) (paired_mono h r)
theorem paired_snoc {α β : Type} {R : α → β → Prop} {a : α} {b : β} (h : R a b) : ∀ {x : List α} {y : List β}, Paired R x y → Paired R (x ++ [a]) (y ++ [b])
  | _, _, .nil => .cons h .nil
  | _, _, .cons a r => .cons a (paired_snoc h r)
theorem varOK_mono {S S' : List (Arr × Value)} (h : ∀ j v, At S j v → At S' j v) {kvs : List (Str × Value)} {n : String} {a : Int} (x : VarOK S kvs n a) : VarOK S' kvs n a := by
  rcases x with x | ⟨h0, y, hy, ha⟩
  · exact .inl x
  · exact .inr ⟨h0, y, hy, h _ _ ha⟩
theorem gg_snoc {cs : List Cell} {inner : List Int} {c : Cell} (hg : GG (sk cs) inner) (hn : c.x.num = ((inner.length : Nat) : Int) + 1) (hv : ∃ s t, c.v0 = Value.str s t) : GG (sk (cs ++ [c])) (inner ++ [-1]) := by
  have hl := hg.len
  have e : sk (cs ++ [c]) = sk cs ++ [(c.x, c.v0)] := by rw [sk, List.map_append]; rfl
  rw [e]
  refine ⟨by rw [List.length_append, List.length_append, hl]; rfl, fun i q hq => ?_, fun i q k hq hk => ?_⟩
  · by_cases hi : i < (sk cs).length
    · rw [List.getElem?_append_left hi] at hq
      exact hg.num i q hq
    · rw [List.getElem?_append_right (by omega)] at hq
      have : i - (sk cs).length = 0 := by
        have := (List.getElem?_eq_some_iff.mp hq).1
        simp only [List.length_cons, List.length_nil] at this
        omega
      rw [this] at hq
      obtain rfl := Option.some.inj hq
      show c.x.num = _
      rw [hn]
      omega
  · by_cases hi : i < (sk cs).length
    · rw [List.getElem?_append_left hi] at hq
      rw [List.getElem?_append_left (by omega)] at hk
      rcases hg.pts i q k hq hk with h | ⟨h0, r, hr, e⟩
      · exact .inl h
      · exact .inr ⟨h0, r, by rw [List.getElem?_append_left (List.getElem?_eq_some_iff.mp hr).1]; exact hr, e⟩
    · rw [List.getElem?_append_right (by omega)] at hq hk
      have : i - (sk cs).length = 0 := by
        have := (List.getElem?_eq_some_iff.mp hq).1
        simp only [List.length_cons, List.length_nil] at this
        omega
      rw [this] at hq
      rw [← hl, this] at hk
      obtain rfl := Option.some.inj hq
      obtain rfl := Option.some.inj hk
      exact .inl ⟨by omega, hv⟩
theorem made_S (w : World) (S : St) (ok : S.Ok w) (hc : S.inner.length ≤ 10) :
  Spec w 302 7 311 [.ref S.wi, .ref S.kw] (S.led w) (fun r ft => ∃ (S' : St) (tr : Tok), r = .int (S.inner.length : Nat) tr ∧ S'.Ok w ∧ ft = S'.led w ∧ S'.wi = S.wi ∧ S'.kw = S.kw ∧ S'.T = S.T ∧ S'.inner = S.inner ++ [-1]) := by
  have hnd := ok.nd
  have hcl : S.cells.length = S.inner.length := by
    have := ok.gg.len
    rw [sk, List.length_map] at this
    exact this
  have htl : S.tv.length = S.inner.length := by rw [ok.tv, List.length_map, hcl]
  have hil := ok.iv.length
  have hvl := ok.hv.length
  rw [List.length_map] at hvl
  have hsl := paired_len ok.hp
  have hn := ok.hn
  dsimp only [St.led, cwLed] at hnd ⊢
  generalize hR : cellsLed w S.cells = R at *
  have P1 : ([(S.wi, instObj 231 S.wd), (S.wd, dictOf (wEs w S.ks S.V S.store S.aside S.H S.made S.tm) 26), (S.H, listOf S.hs.toArray S.nh), (S.kw, S.okw), (S.T, listOf S.tv.toArray S.nT), (S.I, listOf S.iv.toArray S.nI), (S.Hd, listOf S.hv.toArray S.nHd)] ++ ([(S.va, S.ova), (S.aside, listOf #[] S.na), (S.store, S.os)] ++ R)).Perm ([(S.kw, S.okw), (S.va, S.ova), (S.T, listOf S.tv.toArray S.nT), (S.I, listOf S.iv.toArray S.nI), (S.Hd, listOf S.hv.toArray S.nHd), (S.aside, listOf #[] S.na), (S.H, listOf S.hs.toArray S.nh), (S.wi, instObj 231 S.wd), (S.wd, dictOf (wEs w S.ks S.V S.store S.aside S.H S.made S.tm) 26), (S.store, S.os)] ++ R) := pick_both (is := [7, 8, 6, 0, 2, 3, 4, 1, 5, 9]) (n := 10) (by decide) rfl rfl
  obtain ⟨hf, hx, hfx⟩ := NDL.app (NDL.perm P1.symm hnd)
  refine Spec.wide (made_C w (wi := S.wi) (wd := S.wd) (store := S.store) (aside := S.aside) (H := S.H) (kd := S.kw) (things := S.T) (inner := S.I) (held := S.Hd) (vars := S.va) (ks := S.ks) (V := S.V) (made := S.made) (tm := S.tm) (ok := S.okw) (hs := S.hs) (ts := S.tv) (is := S.iv) (ls := S.hv) (n2 := S.nh) (n3 := S.nT) (n4 := S.nI) (n5 := S.nHd)
    (by rw [ok.md]; omega) (by rw [ok.md]; omega) (by omega) (by omega) (by omega) (by omega) ok.kd ok.lo2 ?hne) (extra := (S.va, S.ova) :: (S.aside, listOf #[] S.na) :: (S.store, S.os) :: R) ?hs (apart_of ?hap) ?hP
  case hne => exact ndl_pairN hf
  case hs => exact fun p hp => P1.mem_iff.mp hp
  case hap => exact apartL_of hfx
  case hP =>
    intro r ft hP ha
    obtain ⟨x, tm', tmk, tr, t1, rfl, hxn, hpn, rfl⟩ := hP
    have P2 : ([(S.wi, instObj 231 S.wd), (S.wd, dictOf (wEs w S.ks S.V S.store S.aside S.H (S.made + 1) tm') 26), (S.H, listOf (S.hs ++ [Value.ref x.a]).toArray (S.nh + 1)), (S.kw, S.okw), (S.T, listOf (S.tv ++ [Value.ref x.a]).toArray (S.nT + 1)), (S.I, listOf (S.iv ++ [Value.int (-1) t1]).toArray (S.nI + 1)), (S.Hd, listOf (S.hv ++ [Value.int (S.iv.length : Nat) tr]).toArray (S.nHd + 1))] ++ ([(S.va, S.ova), (S.aside, listOf #[] S.na), (S.store, S.os)] ++ R)).Perm ([(S.kw, S.okw), (S.va, S.ova), (S.T, listOf (S.tv ++ [Value.ref x.a]).toArray (S.nT + 1)), (S.I, listOf (S.iv ++ [Value.int (-1) t1]).toArray (S.nI + 1)), (S.Hd, listOf (S.hv ++ [Value.int (S.iv.length : Nat) tr]).toArray (S.nHd + 1)), (S.aside, listOf #[] S.na), (S.H, listOf (S.hs ++ [Value.ref x.a]).toArray (S.nh + 1)), (S.wi, instObj 231 S.wd), (S.wd, dictOf (wEs w S.ks S.V S.store S.aside S.H (S.made + 1) tm') 26), (S.store, S.os)] ++ R) := pick_both (is := [7, 8, 6, 0, 2, 3, 4, 1, 5, 9]) (n := 10) (by decide) rfl rfl
    have P3 : ((arrLed w x 0 tmk (Value.str (Str.ofString "x") x.tx) ++ [(S.wi, instObj 231 S.wd), (S.wd, dictOf (wEs w S.ks S.V S.store S.aside S.H (S.made + 1) tm') 26), (S.H, listOf (S.hs ++ [Value.ref x.a]).toArray (S.nh + 1)), (S.kw, S.okw), (S.T, listOf (S.tv ++ [Value.ref x.a]).toArray (S.nT + 1)), (S.I, listOf (S.iv ++ [Value.int (-1) t1]).toArray (S.nI + 1)), (S.Hd, listOf (S.hv ++ [Value.int (S.iv.length : Nat) tr]).toArray (S.nHd + 1))]) ++ ([(S.va, S.ova), (S.aside, listOf #[] S.na), (S.store, S.os)] ++ R)).Perm ([(S.kw, S.okw), (S.va, S.ova), (S.T, listOf (S.tv ++ [Value.ref x.a]).toArray (S.nT + 1)), (S.I, listOf (S.iv ++ [Value.int (-1) t1]).toArray (S.nI + 1)), (S.Hd, listOf (S.hv ++ [Value.int (S.iv.length : Nat) tr]).toArray (S.nHd + 1)), (S.aside, listOf #[] S.na), (S.H, listOf (S.hs ++ [Value.ref x.a]).toArray (S.nh + 1)), (S.wi, instObj 231 S.wd), (S.wd, dictOf (wEs w S.ks S.V S.store S.aside S.H (S.made + 1) tm') 26), (S.store, S.os)] ++ (R ++ cellLed w ⟨x, 0, tmk, Value.str (Str.ofString "x") x.tx⟩)) := by
      rw [List.append_assoc, ← List.append_assoc (bs := R)]
      exact (List.perm_append_comm).trans (P2.append_right _)
    have hnd2 := NDL.perm P3 (NDL.mk_app (pairN_ndl (by exact hpn)) hx ha)
    have hnew : At (sk (S.cells ++ [⟨x, 0, tmk, Value.str (Str.ofString "x") x.tx⟩])) S.inner.length (Value.ref x.a) := by
      refine ⟨(x, Value.str (Str.ofString "x") x.tx), ?_, rfl⟩
      rw [sk, List.map_append, List.getElem?_append_right (by rw [List.length_map]; omega), List.length_map, hcl, Nat.sub_self]
      rfl
    refine ⟨St.led w { S with hs := S.hs ++ [Value.ref x.a], nh := S.nh + 1, tv := S.tv ++ [Value.ref x.a], nT := S.nT + 1, iv := S.iv ++ [Value.int (-1) t1], nI := S.nI + 1, hv := S.hv ++ [Value.int (S.iv.length : Nat) tr], nHd := S.nHd + 1, made := S.made + 1, tm := tm', cells := S.cells ++ [⟨x, 0, tmk, Value.str (Str.ofString "x") x.tx⟩], inner := S.inner ++ [-1], hl := S.hl ++ [S.inner.length] },
      ⟨{ S with hs := S.hs ++ [Value.ref x.a], nh := S.nh + 1, tv := S.tv ++ [Value.ref x.a], nT := S.nT + 1, iv := S.iv ++ [Value.int (-1) t1], nI := S.nI + 1, hv := S.hv ++ [Value.int (S.iv.length : Nat) tr], nHd := S.nHd + 1, made := S.made + 1, tm := tm', cells := S.cells ++ [⟨x, 0, tmk, Value.str (Str.ofString "x") x.tx⟩], inner := S.inner ++ [-1], hl := S.hl ++ [S.inner.length] }, tr, by rw [hil], ?ok, rfl, rfl, rfl, rfl, rfl⟩, ?sub⟩
    case sub =>
      intro p hp
      dsimp only [St.led, cwLed] at hp
      rw [cells_snoc, hR] at hp
      exact P3.mem_iff.mpr hp
    case ok =>
      refine { nd := ?nd, gg := gg_snoc ok.gg (by rw [hxn, ok.md]) ⟨_, _, rfl⟩, kd := ok.kd, vd := ok.vd, sd := ok.sd, k1 := ok.k1, k2 := ok.k2, xa := ok.xa, xb := ok.xb, la := ?la, lb := ?lb, vA := varOK_mono (fun _ _ h => at_snoc h) ok.vA, vB := varOK_mono (fun _ _ h => at_snoc h) ok.vB, tv := ?tv, iv := ints_snoc ok.iv, hv := ?hv, hp := paired_snoc hnew (paired_mono (fun _ _ h => at_snoc h) ok.hp), hn := ?hn, md := ?md, ib := ?ib, lo1 := ok.lo1, lo2 := ok.lo2, lo3 := ok.lo3 }
      case la => have := ok.la; simp only [List.length_append, List.length_cons, List.length_nil]; omega
      case lb => have := ok.lb; simp only [List.length_append, List.length_cons, List.length_nil]; omega
      case tv => simp only [List.map_append, List.map_cons, List.map_nil]; rw [ok.tv]
      case hv =>
        simp only [List.map_append, List.map_cons, List.map_nil]
        rw [hil]
        exact ints_snoc ok.hv
      case hn => simp only [List.length_append, List.length_cons, List.length_nil]; omega
      case md => simp only [List.length_append, List.length_cons, List.length_nil]; rw [ok.md]; omega
      case ib =>
        intro k hk
        simp only [List.length_append, List.length_cons, List.length_nil]
        rcases List.mem_append.mp hk with hk | hk
        · have := ok.ib k hk; omega
        · rw [List.mem_singleton.mp hk]; omega
      case nd =>
        dsimp only [St.led, cwLed]
        rw [cells_snoc, hR]
        exact hnd2
theorem ints_set {k : Int} {t : Tok} : ∀ {is : List Value} {ns : List Int} (i : Nat), IntsAre is ns → IntsAre (is.set i (Value.int k t)) (ns.set i k)
  | _, _, _, .nil => .nil
  | _, _, 0, .cons _ _ h => .cons k t h
  | _, _, i + 1, .cons n u h => .cons n u (ints_set i h)
theorem map_x_set {cs : List Cell} {j : Nat} {c d : Cell} (h : cs[j]? = some c) (e : d.x = c.x) : (cs.set j d).map (fun c => c.x) = cs.map fun c => c.x := by
  apply List.ext_getElem?
  intro i
  by_cases hi : j = i
  · subst hi
    obtain ⟨hj, rfl⟩ := List.getElem?_eq_some_iff.mp h
    simp [hj, e]
  · simp [List.getElem?_set, hi]
theorem at_x {cs ds : List Cell} (h : cs.map (fun c => c.x) = ds.map fun c => c.x) {j : Nat} {v : Value} (a : At (sk cs) j v) : At (sk ds) j v := by
  obtain ⟨q, hq, rfl⟩ := a
  obtain ⟨c, hc, rfl⟩ : ∃ c, cs[j]? = some c ∧ (c.x, c.v0) = q := by simpa [sk] using hq
  have h1 : (ds.map fun c => c.x)[j]? = some c.x := by rw [← h]; simp [hc]
  obtain ⟨d, hd, e⟩ : ∃ d, ds[j]? = some d ∧ d.x = c.x := by simpa using h1
  exact ⟨(d.x, d.v0), by simp [sk, hd], by rw [e]⟩
theorem gg_set {cs : List Cell} {inner : List Int} {j : Nat} {c : Cell} {o : Int} {v : Value} (hg : GG (sk cs) inner) (hc : cs[j]? = some c) (h0 : 0 ≤ o) (ho : At (sk cs) o.toNat v) :
    GG (sk (cs.set j ⟨c.x, c.mrk, c.tmk, v⟩)) (inner.set j o) := by
  have hx := map_x_set (d := ⟨c.x, c.mrk, c.tmk, v⟩) hc rfl
  have hl := hg.len
  refine ⟨by simpa [sk] using hl, fun i q hq => ?_, fun i q k hq hk => ?_⟩
  · obtain ⟨d, hd, rfl⟩ : ∃ d, (cs.set j ⟨c.x, c.mrk, c.tmk, v⟩)[i]? = some d ∧ (d.x, d.v0) = q := by
      rw [sk, List.getElem?_map, Option.map_eq_some_iff] at hq
      exact hq
    have h1 : (cs.map fun c => c.x)[i]? = some d.x := by rw [← hx]; simp only [List.getElem?_map, hd, Option.map_some]
    obtain ⟨e, he, ee⟩ : ∃ e, cs[i]? = some e ∧ e.x = d.x := by simpa using h1
    have := hg.num i (e.x, e.v0) (by simp [sk, he])
    rw [← ee]; exact this
  · by_cases hij : j = i
    · subst hij
      have hj := (List.getElem?_eq_some_iff.mp hc).1
      have hji : j < inner.length := by rw [← hl]; simpa [sk] using hj
      have e1 : q = (c.x, v) := by
        have : (sk (cs.set j ⟨c.x, c.mrk, c.tmk, v⟩))[j]? = some (c.x, v) := by simp [sk, hj]
        rw [this] at hq
        exact (Option.some.inj hq).symm
      have e2 : k = o := by
        have : (inner.set j o)[j]? = some o := by simp [hji]
        rw [this] at hk
        exact (Option.some.inj hk).symm
      subst e1 e2
      obtain ⟨r, hr, e⟩ := at_x hx.symm ho
      exact .inr ⟨h0, r, hr, e⟩
    · have hq' : (sk cs)[i]? = some q := by
        have : (sk (cs.set j ⟨c.x, c.mrk, c.tmk, v⟩))[i]? = (sk cs)[i]? := by simp only [sk, List.getElem?_map, List.getElem?_set_ne hij]
        rw [← this]; exact hq
      rw [List.getElem?_set_ne hij] at hk
      rcases hg.pts i q k hq' hk with h | ⟨h1, r, hr, e⟩
      · exact .inl h
      · obtain ⟨r', hr', e'⟩ := at_x hx.symm (cs := cs) ⟨r, hr, rfl⟩
        exact .inr ⟨h1, r', hr', e.trans e'⟩
theorem given_S (w : World) (S : St) (ok : S.Ok w) (hc : S.inner.length ≤ 10) {one other : Int} {t1 t2 : Tok} (h0 : 0 ≤ one) (h1 : one < (S.inner.length : Nat)) (h2 : 0 ≤ other) (h3 : other < (S.inner.length : Nat)) :
  Spec w 302 7 318 [.ref S.kw, .int one t1, .int other t2] (S.led w) (fun r ft => r = Value.none ∧ ∃ (S' : St), S'.Ok w ∧ ft = S'.led w ∧ S'.wi = S.wi ∧ S'.kw = S.kw ∧ S'.T = S.T ∧ S'.inner = S.inner.set one.toNat other) := by
  have hnd := ok.nd
  have hcl : S.cells.length = S.inner.length := by
    have := ok.gg.len
    rw [sk, List.length_map] at this
    exact this
  have htl : S.tv.length = S.inner.length := by rw [ok.tv, List.length_map, hcl]
  have hil := ok.iv.length
  have hj : one.toNat < S.cells.length := by omega
  have ho : other.toNat < S.cells.length := by omega
  obtain ⟨c, hcj⟩ : ∃ c, S.cells[one.toNat]? = some c := ⟨_, List.getElem?_eq_getElem hj⟩
  obtain ⟨d, hdo⟩ : ∃ d, S.cells[other.toNat]? = some d := ⟨_, List.getElem?_eq_getElem ho⟩
  have hpm := cells_perm w hcj
  have hpm2 := cells_perm_set w (c := ⟨c.x, c.mrk, c.tmk, Value.ref d.x.a⟩) hj
  dsimp only [St.led, cwLed]
  generalize hR : cellsLed w (S.cells.eraseIdx one.toNat) = R at *
  have P1 : ((cellLed w c ++ [(S.kw, S.okw), (S.T, listOf S.tv.toArray S.nT), (S.I, listOf S.iv.toArray S.nI)]) ++ ([(S.va, S.ova), (S.Hd, listOf S.hv.toArray S.nHd), (S.aside, listOf #[] S.na), (S.H, listOf S.hs.toArray S.nh), (S.wi, instObj 231 S.wd), (S.wd, dictOf (wEs w S.ks S.V S.store S.aside S.H S.made S.tm) 26), (S.store, S.os)] ++ R)).Perm ([(S.kw, S.okw), (S.va, S.ova), (S.T, listOf S.tv.toArray S.nT), (S.I, listOf S.iv.toArray S.nI), (S.Hd, listOf S.hv.toArray S.nHd), (S.aside, listOf #[] S.na), (S.H, listOf S.hs.toArray S.nh), (S.wi, instObj 231 S.wd), (S.wd, dictOf (wEs w S.ks S.V S.store S.aside S.H S.made S.tm) 26), (S.store, S.os)] ++ cellsLed w S.cells) := cell_both (pick_both (is := [0, 2, 3, 1, 4, 5, 6, 7, 8, 9]) (n := 10) (by decide) rfl rfl) hpm
  obtain ⟨hf, _, hfx⟩ := NDL.app (NDL.perm P1.symm hnd)
  refine Spec.wide (given_C w (kd := S.kw) (things := S.T) (inner := S.I) (held := S.Hd) (vars := S.va) (ok := S.okw) (ts := S.tv) (is := S.iv) (ns := S.inner) (n3 := S.nT) (n4 := S.nI) (x := c.x) (mk := c.mrk) (tmk := c.tmk) (t1 := t1) (t2 := t2) (v0 := c.v0) (v := Value.ref d.x.a) (one := one) (other := other)
    ok.iv (by omega) (by omega) h0 (by omega) h2 (by omega) (by rw [ok.tv]; simp [hcj]) (by rw [ok.tv]; simp [hdo]) ok.kd ?hne) (extra := (S.va, S.ova) :: (S.Hd, listOf S.hv.toArray S.nHd) :: (S.aside, listOf #[] S.na) :: (S.H, listOf S.hs.toArray S.nh) :: (S.wi, instObj 231 S.wd) :: (S.wd, dictOf (wEs w S.ks S.V S.store S.aside S.H S.made S.tm) 26) :: (S.store, S.os) :: R) ?hs (apart_of ?hap) ?hP
  case hne => exact ndl_pairN hf
  case hs => exact fun p hp => P1.mem_iff.mp hp
  case hap => exact apartL_of hfx
  case hP =>
    intro r ft hP _
    obtain ⟨rfl, rfl⟩ := hP
    have hx := map_x_set (d := ⟨c.x, c.mrk, c.tmk, Value.ref d.x.a⟩) hcj rfl
    have hat : At (sk S.cells) other.toNat (Value.ref d.x.a) := ⟨(d.x, d.v0), by simp [sk, hdo], rfl⟩
    refine ⟨St.led w { S with iv := S.iv.set one.toNat (Value.int other t2), inner := S.inner.set one.toNat other, cells := S.cells.set one.toNat ⟨c.x, c.mrk, c.tmk, Value.ref d.x.a⟩ },
      ⟨rfl, { S with iv := S.iv.set one.toNat (Value.int other t2), inner := S.inner.set one.toNat other, cells := S.cells.set one.toNat ⟨c.x, c.mrk, c.tmk, Value.ref d.x.a⟩ }, ?ok, rfl, rfl, rfl, rfl, rfl⟩, ?sub⟩
    case sub =>
      have P2 : ((cellLed w ⟨c.x, c.mrk, c.tmk, Value.ref d.x.a⟩ ++ [(S.kw, S.okw), (S.T, listOf S.tv.toArray S.nT), (S.I, listOf (S.iv.set one.toNat (Value.int other t2)).toArray S.nI)]) ++ ([(S.va, S.ova), (S.Hd, listOf S.hv.toArray S.nHd), (S.aside, listOf #[] S.na), (S.H, listOf S.hs.toArray S.nh), (S.wi, instObj 231 S.wd), (S.wd, dictOf (wEs w S.ks S.V S.store S.aside S.H S.made S.tm) 26), (S.store, S.os)] ++ R)).Perm ([(S.kw, S.okw), (S.va, S.ova), (S.T, listOf S.tv.toArray S.nT), (S.I, listOf (S.iv.set one.toNat (Value.int other t2)).toArray S.nI), (S.Hd, listOf S.hv.toArray S.nHd), (S.aside, listOf #[] S.na), (S.H, listOf S.hs.toArray S.nh), (S.wi, instObj 231 S.wd), (S.wd, dictOf (wEs w S.ks S.V S.store S.aside S.H S.made S.tm) 26), (S.store, S.os)] ++ cellsLed w (S.cells.set one.toNat ⟨c.x, c.mrk, c.tmk, Value.ref d.x.a⟩)) := cell_both (pick_both (is := [0, 2, 3, 1, 4, 5, 6, 7, 8, 9]) (n := 10) (by decide) rfl rfl) hpm2
      exact fun p hp => P2.mem_iff.mpr hp
    case ok =>
      have hl : (S.inner.set one.toNat other).length = S.inner.length := List.length_set
      refine { nd := ?nd, gg := gg_set ok.gg hcj h2 hat, kd := ok.kd, vd := ok.vd, sd := ok.sd, k1 := ok.k1, k2 := ok.k2, xa := ok.xa, xb := ok.xb, la := ?la, lb := ?lb, vA := varOK_mono (fun _ _ h => at_x hx.symm h) ok.vA, vB := varOK_mono (fun _ _ h => at_x hx.symm h) ok.vB, tv := ?tv, iv := ints_set _ ok.iv, hv := ok.hv, hp := paired_mono (fun _ _ h => at_x hx.symm h) ok.hp, hn := ?hn, md := ?md, ib := ?ib, lo1 := ok.lo1, lo2 := ok.lo2, lo3 := ok.lo3 }
      case la => show S.a < _; rw [hl]; exact ok.la
      case lb => show S.b < _; rw [hl]; exact ok.lb
      case hn => show S.hl.length ≤ _; rw [hl]; exact ok.hn
      case md => show S.made = _; rw [hl]; exact ok.md
      case ib =>
        intro k hk
        show k < _
        rw [hl]
        rcases List.mem_or_eq_of_mem_set hk with hk | rfl
        · exact ok.ib k hk
        · exact h3
      case tv =>
        have h2 : ∀ l : List Cell, (l.map fun c => Value.ref c.x.a) = (l.map fun c => c.x).map fun x => Value.ref x.a := fun l => by rw [List.map_map]; rfl
        show S.tv = (S.cells.set one.toNat ⟨c.x, c.mrk, c.tmk, Value.ref d.x.a⟩).map fun c => Value.ref c.x.a
        rw [ok.tv, h2, h2, hx]
      case nd =>
        have h4 : (St.led w { S with iv := S.iv.set one.toNat (Value.int other t2), inner := S.inner.set one.toNat other, cells := S.cells.set one.toNat ⟨c.x, c.mrk, c.tmk, Value.ref d.x.a⟩ }).map (·.1) = (St.led w S).map (·.1) := by
          dsimp only [St.led, cwLed]
          simp only [List.map_cons]
          rw [cells_addrs w hx]
        exact NDL.addrs h4.symm ok.nd
section
variable {K : Type} [DecidableEq K]
theorem valueAt_cons (a : K) (b : Value) (r : List (K × Value)) (k : K) : valueAt ((a, b) :: r) k = if a = k then some b else valueAt r k := by
  unfold valueAt
  rw [List.find?_cons]
  by_cases h : a = k <;> simp [h]
theorem valueAt_map_ne {k k' : K} {v : Value} (h : k' ≠ k) : ∀ kvs : List (K × Value), valueAt (kvs.map fun kv => if kv.1 = k then (kv.1, v) else kv) k' = valueAt kvs k'
  | [] => rfl
  | (a, b) :: r => by
    rw [List.map_cons, valueAt_cons]
    by_cases e : a = k
    · subst e
      simp only [if_true]
      rw [valueAt_cons, if_neg (fun q => h q.symm), if_neg (fun q => h q.symm), valueAt_map_ne h r]
    · simp only [e, if_false]
      rw [valueAt_cons, valueAt_map_ne h r]
theorem valueAt_map_eq {k : K} {v : Value} : ∀ kvs : List (K × Value), (kvs.any fun kv => kv.1 = k) = true → valueAt (kvs.map fun kv => if kv.1 = k then (kv.1, v) else kv) k = some v
  | [], h => by simp at h
  | (a, b) :: r, h => by
    rw [List.map_cons]
    by_cases e : a = k
    · subst e
      simp only [if_true]
      rw [valueAt_cons, if_pos rfl]
    · simp only [e, if_false]
      rw [valueAt_cons, if_neg e]
      exact valueAt_map_eq r (by simpa [e] using h)
theorem valueAt_app {k k' : K} {v : Value} : ∀ kvs : List (K × Value), (kvs.any fun kv => kv.1 = k) = false → valueAt (kvs ++ [(k, v)]) k' = if k = k' then some v else valueAt kvs k'
  | [], _ => by rw [List.nil_append, valueAt_cons]
  | (a, b) :: r, h => by
    simp only [List.any_cons, Bool.or_eq_false_iff, decide_eq_false_iff_not] at h
    rw [List.cons_append, valueAt_cons, valueAt_cons, valueAt_app r h.2]
    by_cases e : a = k'
    · subst e
      rw [if_pos rfl, if_pos rfl, if_neg (fun q => h.1 q.symm)]
    · rw [if_neg e, if_neg e]
theorem valueAt_stored (kvs : List (K × Value)) (k k' : K) (v : Value) : valueAt (stored kvs k v) k' = if k = k' then some v else valueAt kvs k' := by
  unfold stored
  by_cases h : (kvs.any fun kv => kv.1 = k) = true
  · rw [if_pos h]
    by_cases e : k = k'
    · subst e
      rw [if_pos rfl, valueAt_map_eq kvs h]
    · rw [if_neg e, valueAt_map_ne (fun q => e q.symm)]
  · rw [if_neg h]
    exact valueAt_app kvs (Bool.eq_false_iff.mpr h)
end
theorem ab_stored {w : World} {o : Obj} {kvs : List (Str × Value)} {nm : Str} {v : Value} (h : AB kvs) (hn : (kvs.map (·.1)).Nodup) (hnm : nm = Str.ofString "A" ∨ nm = Str.ofString "B") (hs : SD w o (stored kvs nm v)) : AB (stored kvs nm v) := by
  intro k hk
  obtain ⟨⟨k', x⟩, hm, rfl⟩ := List.mem_map.mp hk
  have h1 := (keysDict (sd_nodup hs)).mp hm
  rw [valueAt_stored] at h1
  by_cases e : nm = k'
  · subst e; exact hnm
  · rw [if_neg e] at h1
    exact h k' (List.mem_map.mpr ⟨_, (keysDict hn).mpr h1, rfl⟩)
theorem neAB : Str.ofString "A" ≠ Str.ofString "B" := by decide
theorem keptA_S (w : World) (S : St) (ok : S.Ok w) (hc : S.inner.length ≤ 10) {at_ : Int} {t1 t2 : Tok} (hat : at_ < (S.inner.length : Nat)) :
  Spec w 302 7 325 [.ref S.wi, .ref S.kw, .str (Str.ofString "A") t1, .int at_ t2] (S.led w) (fun r ft => r = Value.none ∧ ∃ (S' : St), S'.Ok w ∧ ft = S'.led w ∧ S'.wi = S.wi ∧ S'.kw = S.kw ∧ S'.T = S.T ∧ S'.inner = S.inner) := by
  have hnd := ok.nd
  have hcl : S.cells.length = S.inner.length := by
    have := ok.gg.len
    rw [sk, List.length_map] at this
    exact this
  have htl : S.tv.length = S.inner.length := by rw [ok.tv, List.length_map, hcl]
  have hk1 := ab_len ok.k1 (sd_nodup ok.sd)
  have hk2 := ab_len ok.k2 (sd_nodup ok.vd)
  dsimp only [St.led, cwLed] at hnd ⊢
  generalize hR : cellsLed w S.cells = R at *
  have P1 : ([(S.wi, instObj 231 S.wd), (S.wd, dictOf (wEs w S.ks S.V S.store S.aside S.H S.made S.tm) 26), (S.store, S.os), (S.kw, S.okw), (S.T, listOf S.tv.toArray S.nT), (S.va, S.ova)] ++ ([(S.I, listOf S.iv.toArray S.nI), (S.Hd, listOf S.hv.toArray S.nHd), (S.aside, listOf #[] S.na), (S.H, listOf S.hs.toArray S.nh)] ++ R)).Perm ([(S.kw, S.okw), (S.va, S.ova), (S.T, listOf S.tv.toArray S.nT), (S.I, listOf S.iv.toArray S.nI), (S.Hd, listOf S.hv.toArray S.nHd), (S.aside, listOf #[] S.na), (S.H, listOf S.hs.toArray S.nh), (S.wi, instObj 231 S.wd), (S.wd, dictOf (wEs w S.ks S.V S.store S.aside S.H S.made S.tm) 26), (S.store, S.os)] ++ R) := pick_both (is := [7, 8, 9, 0, 2, 1, 3, 4, 5, 6]) (n := 10) (by decide) rfl rfl
  obtain ⟨hf, hx, hfx⟩ := NDL.app (NDL.perm P1.symm hnd)
  refine Spec.wide (kept_C w (wi := S.wi) (wd := S.wd) (store := S.store) (aside := S.aside) (H := S.H) (kd := S.kw) (things := S.T) (inner := S.I) (held := S.Hd) (vars := S.va) (ks := S.ks) (V := S.V) (made := S.made) (tm := S.tm) (ok := S.okw) (ov := S.ova) (os := S.os) (kvv := S.kvv) (kvs := S.kvs) (ts := S.tv) (n3 := S.nT) (t1 := t1) (t2 := t2) (v := (S.tv.toArray[at_.toNat]?).getD .none) (name := Str.ofString "A") (at_ := at_)
    (by omega) (by rw [htl]; exact hat) ?hy ok.kd ok.vd ok.sd (by rw [sizeLine_eq]; omega) (by rw [sizeLine_eq]; omega) ?hne) (extra := (S.I, listOf S.iv.toArray S.nI) :: (S.Hd, listOf S.hv.toArray S.nHd) :: (S.aside, listOf #[] S.na) :: (S.H, listOf S.hs.toArray S.nh) :: R) ?hs (apart_of ?hap) ?hP
  case hy =>
    intro h0
    have : at_.toNat < S.tv.toArray.size := by rw [List.size_toArray]; omega
    rw [Array.getElem?_eq_getElem this]
    rfl
  case hne => exact ndl_pairN hf
  case hs => exact fun p hp => P1.mem_iff.mp hp
  case hap => exact apartL_of hfx
  case hP =>
    intro r ft hP _
    obtain ⟨ov', os', v', rfl, hv1, hv2, hsv, hss, rfl⟩ := hP
    refine ⟨St.led w { S with ova := ov', os := os', kvv := stored S.kvv (Str.ofString "A") (.int at_ t2), kvs := stored S.kvs (Str.ofString "A") v', a := at_, ta := t2 },
      ⟨rfl, { S with ova := ov', os := os', kvv := stored S.kvv (Str.ofString "A") (.int at_ t2), kvs := stored S.kvs (Str.ofString "A") v', a := at_, ta := t2 }, ?ok, rfl, rfl, rfl, rfl, rfl⟩, ?sub⟩
    case sub =>
      intro p hp
      dsimp only [St.led, cwLed] at hp
      rw [hR] at hp
      have P2 : ([(S.wi, instObj 231 S.wd), (S.wd, dictOf (wEs w S.ks S.V S.store S.aside S.H S.made S.tm) 26), (S.store, os'), (S.kw, S.okw), (S.T, listOf S.tv.toArray S.nT), (S.va, ov')] ++ ([(S.I, listOf S.iv.toArray S.nI), (S.Hd, listOf S.hv.toArray S.nHd), (S.aside, listOf #[] S.na), (S.H, listOf S.hs.toArray S.nh)] ++ R)).Perm ([(S.kw, S.okw), (S.va, ov'), (S.T, listOf S.tv.toArray S.nT), (S.I, listOf S.iv.toArray S.nI), (S.Hd, listOf S.hv.toArray S.nHd), (S.aside, listOf #[] S.na), (S.H, listOf S.hs.toArray S.nh), (S.wi, instObj 231 S.wd), (S.wd, dictOf (wEs w S.ks S.V S.store S.aside S.H S.made S.tm) 26), (S.store, os')] ++ R) := pick_both (is := [7, 8, 9, 0, 2, 1, 3, 4, 5, 6]) (n := 10) (by decide) rfl rfl
      exact P2.mem_iff.mpr hp
    case ok =>
      refine { nd := ?nd, gg := ok.gg, kd := ok.kd, vd := hsv, sd := hss, k1 := ab_stored ok.k1 (sd_nodup ok.sd) (.inl rfl) hss, k2 := ab_stored ok.k2 (sd_nodup ok.vd) (.inl rfl) hsv, xa := ?xa, xb := ?xb, la := hat, lb := ok.lb, vA := ?vA, vB := ?vB, tv := ok.tv, iv := ok.iv, hv := ok.hv, hp := ok.hp, hn := ok.hn, md := ok.md, ib := ok.ib, lo1 := ok.lo1, lo2 := ok.lo2, lo3 := ok.lo3 }
      case xa => rw [valueAt_stored, if_pos rfl]
      case xb => rw [valueAt_stored, if_neg neAB]; exact ok.xb
      case vA =>
        by_cases h0 : at_ < 0
        · refine .inl ⟨h0, fun y hy => ?_⟩
          rw [valueAt_stored, if_pos rfl] at hy
          obtain rfl := Option.some.inj hy
          obtain ⟨t, rfl⟩ := hv1 h0
          exact ⟨_, _, rfl⟩
        · refine .inr ⟨Int.not_lt.mp h0, v', by rw [valueAt_stored, if_pos rfl], ?_⟩
          have hlt : at_.toNat < S.cells.length := by omega
          refine ⟨(S.cells[at_.toNat].x, S.cells[at_.toNat].v0), by simp [sk, hlt], ?_⟩
          have h1 : 0 ≤ at_ := Int.not_lt.mp h0
          rw [hv2 h1, ok.tv]
          simp [hlt]
      case vB =>
        rcases ok.vB with ⟨h0, h⟩ | ⟨h0, y, hy, ha⟩
        · exact .inl ⟨h0, fun y hy => h y (by rwa [valueAt_stored, if_neg neAB] at hy)⟩
        · exact .inr ⟨h0, y, by rw [valueAt_stored, if_neg neAB]; exact hy, ha⟩
      case nd =>
        dsimp only [St.led, cwLed]
        rw [hR]
        exact NDL.addrs (by rfl) hnd
theorem keptB_S (w : World) (S : St) (ok : S.Ok w) (hc : S.inner.length ≤ 10) {at_ : Int} {t1 t2 : Tok} (hat : at_ < (S.inner.length : Nat)) :
  Spec w 302 7 325 [.ref S.wi, .ref S.kw, .str (Str.ofString "B") t1, .int at_ t2] (S.led w) (fun r ft => r = Value.none ∧ ∃ (S' : St), S'.Ok w ∧ ft = S'.led w ∧ S'.wi = S.wi ∧ S'.kw = S.kw ∧ S'.T = S.T ∧ S'.inner = S.inner) := by
  have hnd := ok.nd
  have hcl : S.cells.length = S.inner.length := by
    have := ok.gg.len
    rw [sk, List.length_map] at this
    exact this
  have htl : S.tv.length = S.inner.length := by rw [ok.tv, List.length_map, hcl]
  have hk1 := ab_len ok.k1 (sd_nodup ok.sd)
  have hk2 := ab_len ok.k2 (sd_nodup ok.vd)
  dsimp only [St.led, cwLed] at hnd ⊢
  generalize hR : cellsLed w S.cells = R at *
  have P1 : ([(S.wi, instObj 231 S.wd), (S.wd, dictOf (wEs w S.ks S.V S.store S.aside S.H S.made S.tm) 26), (S.store, S.os), (S.kw, S.okw), (S.T, listOf S.tv.toArray S.nT), (S.va, S.ova)] ++ ([(S.I, listOf S.iv.toArray S.nI), (S.Hd, listOf S.hv.toArray S.nHd), (S.aside, listOf #[] S.na), (S.H, listOf S.hs.toArray S.nh)] ++ R)).Perm ([(S.kw, S.okw), (S.va, S.ova), (S.T, listOf S.tv.toArray S.nT), (S.I, listOf S.iv.toArray S.nI), (S.Hd, listOf S.hv.toArray S.nHd), (S.aside, listOf #[] S.na), (S.H, listOf S.hs.toArray S.nh), (S.wi, instObj 231 S.wd), (S.wd, dictOf (wEs w S.ks S.V S.store S.aside S.H S.made S.tm) 26), (S.store, S.os)] ++ R) := pick_both (is := [7, 8, 9, 0, 2, 1, 3, 4, 5, 6]) (n := 10) (by decide) rfl rfl
  obtain ⟨hf, hx, hfx⟩ := NDL.app (NDL.perm P1.symm hnd)
  refine Spec.wide (kept_C w (wi := S.wi) (wd := S.wd) (store := S.store) (aside := S.aside) (H := S.H) (kd := S.kw) (things := S.T) (inner := S.I) (held := S.Hd) (vars := S.va) (ks := S.ks) (V := S.V) (made := S.made) (tm := S.tm) (ok := S.okw) (ov := S.ova) (os := S.os) (kvv := S.kvv) (kvs := S.kvs) (ts := S.tv) (n3 := S.nT) (t1 := t1) (t2 := t2) (v := (S.tv.toArray[at_.toNat]?).getD .none) (name := Str.ofString "B") (at_ := at_)
    (by omega) (by rw [htl]; exact hat) ?hy ok.kd ok.vd ok.sd (by rw [sizeLine_eq]; omega) (by rw [sizeLine_eq]; omega) ?hne) (extra := (S.I, listOf S.iv.toArray S.nI) :: (S.Hd, listOf S.hv.toArray S.nHd) :: (S.aside, listOf #[] S.na) :: (S.H, listOf S.hs.toArray S.nh) :: R) ?hs (apart_of ?hap) ?hP
  case hy =>
    intro h0
    have : at_.toNat < S.tv.toArray.size := by rw [List.size_toArray]; omega
    rw [Array.getElem?_eq_getElem this]
    rfl
  case hne => exact ndl_pairN hf
  case hs => exact fun p hp => P1.mem_iff.mp hp
  case hap => exact apartL_of hfx
  case hP =>
    intro r ft hP _
    obtain ⟨ov', os', v', rfl, hv1, hv2, hsv, hss, rfl⟩ := hP
    refine ⟨St.led w { S with ova := ov', os := os', kvv := stored S.kvv (Str.ofString "B") (.int at_ t2), kvs := stored S.kvs (Str.ofString "B") v', b := at_, tb := t2 },
      ⟨rfl, { S with ova := ov', os := os', kvv := stored S.kvv (Str.ofString "B") (.int at_ t2), kvs := stored S.kvs (Str.ofString "B") v', b := at_, tb := t2 }, ?ok, rfl, rfl, rfl, rfl, rfl⟩, ?sub⟩
    case sub =>
      intro p hp
      dsimp only [St.led, cwLed] at hp
      rw [hR] at hp
      have P2 : ([(S.wi, instObj 231 S.wd), (S.wd, dictOf (wEs w S.ks S.V S.store S.aside S.H S.made S.tm) 26), (S.store, os'), (S.kw, S.okw), (S.T, listOf S.tv.toArray S.nT), (S.va, ov')] ++ ([(S.I, listOf S.iv.toArray S.nI), (S.Hd, listOf S.hv.toArray S.nHd), (S.aside, listOf #[] S.na), (S.H, listOf S.hs.toArray S.nh)] ++ R)).Perm ([(S.kw, S.okw), (S.va, ov'), (S.T, listOf S.tv.toArray S.nT), (S.I, listOf S.iv.toArray S.nI), (S.Hd, listOf S.hv.toArray S.nHd), (S.aside, listOf #[] S.na), (S.H, listOf S.hs.toArray S.nh), (S.wi, instObj 231 S.wd), (S.wd, dictOf (wEs w S.ks S.V S.store S.aside S.H S.made S.tm) 26), (S.store, os')] ++ R) := pick_both (is := [7, 8, 9, 0, 2, 1, 3, 4, 5, 6]) (n := 10) (by decide) rfl rfl
      exact P2.mem_iff.mpr hp
    case ok =>
      refine { nd := ?nd, gg := ok.gg, kd := ok.kd, vd := hsv, sd := hss, k1 := ab_stored ok.k1 (sd_nodup ok.sd) (.inr rfl) hss, k2 := ab_stored ok.k2 (sd_nodup ok.vd) (.inr rfl) hsv, xb := ?xa, xa := ?xb, lb := hat, la := ok.la, vB := ?vA, vA := ?vB, tv := ok.tv, iv := ok.iv, hv := ok.hv, hp := ok.hp, hn := ok.hn, md := ok.md, ib := ok.ib, lo1 := ok.lo1, lo2 := ok.lo2, lo3 := ok.lo3 }
      case xa => rw [valueAt_stored, if_pos rfl]
      case xb => rw [valueAt_stored, if_neg neAB.symm]; exact ok.xa
      case vA =>
        by_cases h0 : at_ < 0
        · refine .inl ⟨h0, fun y hy => ?_⟩
          rw [valueAt_stored, if_pos rfl] at hy
          obtain rfl := Option.some.inj hy
          obtain ⟨t, rfl⟩ := hv1 h0
          exact ⟨_, _, rfl⟩
        · refine .inr ⟨Int.not_lt.mp h0, v', by rw [valueAt_stored, if_pos rfl], ?_⟩
          have hlt : at_.toNat < S.cells.length := by omega
          refine ⟨(S.cells[at_.toNat].x, S.cells[at_.toNat].v0), by simp [sk, hlt], ?_⟩
          have h1 : 0 ≤ at_ := Int.not_lt.mp h0
          rw [hv2 h1, ok.tv]
          simp [hlt]
      case vB =>
        rcases ok.vA with ⟨h0, h⟩ | ⟨h0, y, hy, ha⟩
        · exact .inl ⟨h0, fun y hy => h y (by rwa [valueAt_stored, if_neg neAB.symm] at hy)⟩
        · exact .inr ⟨h0, y, by rw [valueAt_stored, if_neg neAB.symm]; exact hy, ha⟩
      case nd =>
        dsimp only [St.led, cwLed]
        rw [hR]
        exact NDL.addrs (by rfl) hnd
noncomputable abbrev fl (feed cells : Addr) (t : Int) (tk1 : Tok) (vs : List Value) (n1 n2 : Nat) : Led := [(feed, listOf #[.ref cells, .int t tk1] n1), (cells, listOf vs.toArray n2)]
structure Gp (w : World) (wi kw feed cells : Addr) (vs : List Value) (n1 n2 : Nat) (S : St) (t : Int) (nx : Led) : Prop where
  eq : ∃ tk1, nx = S.led w ++ fl feed cells t tk1 vs n1 n2
  ok : S.Ok w
  ap : ∀ p ∈ S.led w, @Ne Nat p.1 feed ∧ @Ne Nat p.1 cells
  ne : @Ne Nat feed cells
  wi : S.wi = wi
  kw : S.kw = kw
section
variable {w : World} {vs : List Value} {P : Value → Led → Prop} {cn : Str} {cs : Scope} {a : Addr} {ccd : Value} {cl : List (Str × Addr)} {outer : List Env} {A₀ : Around} {base h₀ : Heap} {L : Addr} {m : Str → Option Value} {s : Shared} {Q E : Value → Shared → Prop}
    {p : Program} {loose : List Str} {mean : ExcName → Option Value} {mg mb : Str → Option Value} {ex news nx : Led} {wi kw feed cells : Addr} {n1 n2 : Nat} {S : St} {t : Int} {f : Addr} {args : List Value}
theorem Gp.use (R : Value → St → Prop) (C : Spec w 302 7 f args (S.led w) P) (post : ∀ r ft, P r ft → ∃ S' : St, R r S' ∧ S'.Ok w ∧ ft = S'.led w ∧ S'.wi = S.wi ∧ S'.kw = S.kw)
    (g : Gp w wi kw feed cells vs n1 n2 S t nx) (B : Below A₀ base outer h₀) (F : Fr h₀ L s.heap m) (X : (hd.heap_39 w.params).In h₀) (N : News h₀ L s.heap news) (T : Top p loose mean mg mb h₀) (hk : cs.kind = .function)
    (hs : ∀ p ∈ nx ++ ex, p ∈ news) (hex : Apart nx ex)
    (hret : ∀ r S' nx' h' tk', R r S' → Gp w wi kw feed cells vs n1 n2 S' t nx' → Fr h₀ L h' m → News h₀ L h' (nx' ++ ex) → Apart nx' ex → Q r { s with heap := h', toks := tk' }) :
    wpAny (model PySem.Challenge.rw_rh0226_01.prog w) (ktrTop 302 7 (some []) cn cs L a ccd cl outer) (call (.ref f) args) Q E s := by
  obtain ⟨tk1, rfl⟩ := g.eq
  refine C.use (fl feed cells t tk1 vs n1 n2 ++ ex) B F X N T hk (fun q hq => hs q (by simpa only [List.append_assoc] using hq)) (fun q hq r hr => ?_) (fun r ft h' tk' hP F' N' ha _ => ?_)
  · rcases List.mem_append.mp hr with hr | hr
    · simp only [fl, List.mem_cons, List.not_mem_nil, or_false] at hr
      rcases hr with rfl | rfl
      · exact (g.ap q hq).1
      · exact (g.ap q hq).2
    · exact hex q (List.mem_append_left _ hq) r hr
  · obtain ⟨S', hR, ok', rfl, e1, e2⟩ := post r ft hP
    refine hret r S' (S'.led w ++ fl feed cells t tk1 vs n1 n2) h' tk' hR ⟨⟨tk1, rfl⟩, ok', fun q hq => ⟨?_, ?_⟩, g.ne, e1.trans g.wi, e2.trans g.kw⟩ F' (by simpa only [List.append_assoc] using N') fun q hq r hr => ?_
    · exact ha q hq _ (List.mem_append_left _ (.head _))
    · exact ha q hq _ (List.mem_append_left _ (.tail _ (.head _)))
    · rcases List.mem_append.mp hq with hq | hq
      · exact ha q hq r (List.mem_append_right _ hr)
      · exact hex q (List.mem_append_right _ hq) r hr
theorem Gp.next {ns : List Int} {many : Int} {tk2 : Tok} (hI : IntsAre vs ns) (hl : ns.length ≤ 30) (ht : 0 ≤ t) (ht2 : t ≤ 30) (hm : 1 ≤ many) (hm2 : many ≤ 10)
    (g : Gp w wi kw feed cells vs n1 n2 S t nx) (B : Below A₀ base outer h₀) (F : Fr h₀ L s.heap m) (X : (hd.heap_39 w.params).In h₀) (N : News h₀ L s.heap news) (T : Top p loose mean mg mb h₀) (hk : cs.kind = .function)
    (hs : ∀ p ∈ nx ++ ex, p ∈ news) (hex : Apart nx ex)
    (hret : ∀ k tr nx' h' tk', 0 ≤ k → k < many → Gp w wi kw feed cells vs n1 n2 S (t + 1) nx' → Fr h₀ L h' m → News h₀ L h' (nx' ++ ex) → Apart nx' ex → Q (.int k tr) { s with heap := h', toks := tk' }) :
    wpAny (model PySem.Challenge.rw_rh0226_01.prog w) (ktrTop 302 7 (some []) cn cs L a ccd cl outer) (call (.ref 304) [.ref feed, .int many tk2]) Q E s := by
  obtain ⟨tk1, rfl⟩ := g.eq
  refine (next_C w g.ne hI hl ht ht2 hm hm2 (tk := tk1) (n1 := n1) (n2 := n2)).use (S.led w ++ ex) B F X N T hk (fun q hq => hs q ?_) (fun q hq r hr => ?_) (fun r ft h' tk' hP F' N' ha _ => ?_)
  · rcases List.mem_append.mp hq with hq | hq
    · exact List.mem_append_left _ (List.mem_append_right _ hq)
    · rcases List.mem_append.mp hq with hq | hq
      · exact List.mem_append_left _ (List.mem_append_left _ hq)
      · exact List.mem_append_right _ hq
  · rcases List.mem_append.mp hr with hr | hr
    · simp only [List.mem_cons, List.not_mem_nil, or_false] at hq
      rcases hq with rfl | rfl
      · exact fun e => (g.ap r hr).1 e.symm
      · exact fun e => (g.ap r hr).2 e.symm
    · exact hex q (List.mem_append_right _ hq) r hr
  · obtain ⟨k, tr, tk3, rfl, h0, h1, rfl⟩ := hP
    refine hret k tr (S.led w ++ fl feed cells (t + 1) tk3 vs n1 n2) h' tk' h0 h1 ⟨⟨tk3, rfl⟩, g.ok, g.ap, g.ne, g.wi, g.kw⟩ F' (newsSub N' fun q hq => ?_) fun q hq r hr => ?_
    · rcases List.mem_append.mp hq with hq | hq
      · rcases List.mem_append.mp hq with hq | hq
        · exact List.mem_append_right _ (List.mem_append_left _ hq)
        · exact List.mem_append_left _ hq
      · exact List.mem_append_right _ (List.mem_append_right _ hq)
    · rcases List.mem_append.mp hq with hq | hq
      · exact hex q (List.mem_append_left _ hq) r hr
      · exact ha q hq r (List.mem_append_right _ hr)
theorem Gp.made (hc : S.inner.length ≤ 10)
    (g : Gp w wi kw feed cells vs n1 n2 S t nx) (B : Below A₀ base outer h₀) (F : Fr h₀ L s.heap m) (X : (hd.heap_39 w.params).In h₀) (N : News h₀ L s.heap news) (T : Top p loose mean mg mb h₀) (hk : cs.kind = .function)
    (hs : ∀ p ∈ nx ++ ex, p ∈ news) (hex : Apart nx ex)
    (hret : ∀ tr S' nx' h' tk', S'.inner = S.inner ++ [-1] → Gp w wi kw feed cells vs n1 n2 S' t nx' → Fr h₀ L h' m → News h₀ L h' (nx' ++ ex) → Apart nx' ex → Q (.int (S.inner.length : Nat) tr) { s with heap := h', toks := tk' }) :
    wpAny (model PySem.Challenge.rw_rh0226_01.prog w) (ktrTop 302 7 (some []) cn cs L a ccd cl outer) (call (.ref 311) [.ref wi, .ref kw]) Q E s := by
  obtain rfl := g.wi
  obtain rfl := g.kw
  refine g.use (fun r S' => (∃ tr, r = .int (S.inner.length : Nat) tr) ∧ S'.inner = S.inner ++ [-1]) (made_S w S g.ok hc) (fun r ft hP => ?_) B F X N T hk hs hex fun r S' nx' h' tk' hR g' F' N' ha => ?_
  · obtain ⟨S', tr, rfl, ok', rfl, e1, e2, _, e4⟩ := hP
    exact ⟨S', ⟨⟨tr, rfl⟩, e4⟩, ok', rfl, e1, e2⟩
  · obtain ⟨⟨tr, rfl⟩, e⟩ := hR
    exact hret tr S' nx' h' tk' e g' F' N' ha
theorem Gp.given {one other : Int} {t1 t2 : Tok} (hc : S.inner.length ≤ 10) (h0 : 0 ≤ one) (h1 : one < (S.inner.length : Nat)) (h2 : 0 ≤ other) (h3 : other < (S.inner.length : Nat))
    (g : Gp w wi kw feed cells vs n1 n2 S t nx) (B : Below A₀ base outer h₀) (F : Fr h₀ L s.heap m) (X : (hd.heap_39 w.params).In h₀) (N : News h₀ L s.heap news) (T : Top p loose mean mg mb h₀) (hk : cs.kind = .function)
    (hs : ∀ p ∈ nx ++ ex, p ∈ news) (hex : Apart nx ex)
    (hret : ∀ S' nx' h' tk', S'.inner = S.inner.set one.toNat other → Gp w wi kw feed cells vs n1 n2 S' t nx' → Fr h₀ L h' m → News h₀ L h' (nx' ++ ex) → Apart nx' ex → Q .none { s with heap := h', toks := tk' }) :
    wpAny (model PySem.Challenge.rw_rh0226_01.prog w) (ktrTop 302 7 (some []) cn cs L a ccd cl outer) (call (.ref 318) [.ref kw, .int one t1, .int other t2]) Q E s := by
  obtain rfl := g.kw
  refine g.use (fun r S' => r = .none ∧ S'.inner = S.inner.set one.toNat other) (given_S w S g.ok hc h0 h1 h2 h3) (fun r ft hP => ?_) B F X N T hk hs hex fun r S' nx' h' tk' hR g' F' N' ha => ?_
  · obtain ⟨rfl, S', ok', rfl, e1, e2, _, e4⟩ := hP
    exact ⟨S', ⟨rfl, e4⟩, ok', rfl, e1, e2⟩
  · obtain ⟨rfl, e⟩ := hR
    exact hret S' nx' h' tk' e g' F' N' ha
theorem Gp.kept {at_ : Int} {nm : Str} {t1 t2 : Tok} (hc : S.inner.length ≤ 10) (hnm : nm = Str.ofString "A" ∨ nm = Str.ofString "B") (hat : at_ < (S.inner.length : Nat))
    (g : Gp w wi kw feed cells vs n1 n2 S t nx) (B : Below A₀ base outer h₀) (F : Fr h₀ L s.heap m) (X : (hd.heap_39 w.params).In h₀) (N : News h₀ L s.heap news) (T : Top p loose mean mg mb h₀) (hk : cs.kind = .function)
    (hs : ∀ p ∈ nx ++ ex, p ∈ news) (hex : Apart nx ex)
    (hret : ∀ S' nx' h' tk', S'.inner = S.inner → Gp w wi kw feed cells vs n1 n2 S' t nx' → Fr h₀ L h' m → News h₀ L h' (nx' ++ ex) → Apart nx' ex → Q .none { s with heap := h', toks := tk' }) :
    wpAny (model PySem.Challenge.rw_rh0226_01.prog w) (ktrTop 302 7 (some []) cn cs L a ccd cl outer) (call (.ref 325) [.ref wi, .ref kw, .str nm t1, .int at_ t2]) Q E s := by
  obtain rfl := g.wi
  obtain rfl := g.kw
  have key : ∀ P : Value → Led → Prop, (∀ r ft, P r ft → r = Value.none ∧ ∃ (S' : St), S'.Ok w ∧ ft = S'.led w ∧ S'.wi = S.wi ∧ S'.kw = S.kw ∧ S'.T = S.T ∧ S'.inner = S.inner) → Spec w 302 7 325 [.ref S.wi, .ref S.kw, .str nm t1, .int at_ t2] (S.led w) P →
      wpAny (model PySem.Challenge.rw_rh0226_01.prog w) (ktrTop 302 7 (some []) cn cs L a ccd cl outer) (call (.ref 325) [.ref S.wi, .ref S.kw, .str nm t1, .int at_ t2]) Q E s := fun P hP C => by
    refine g.use (fun r S' => r = .none ∧ S'.inner = S.inner) C (fun r ft hq => ?_) B F X N T hk hs hex fun r S' nx' h' tk' hR g' F' N' ha => ?_
    · obtain ⟨rfl, S', ok', rfl, e1, e2, _, e4⟩ := hP r ft hq
      exact ⟨S', ⟨rfl, e4⟩, ok', rfl, e1, e2⟩
    · obtain ⟨rfl, e⟩ := hR
      exact hret S' nx' h' tk' e g' F' N' ha
  rcases hnm with rfl | rfl
  · exact key _ (fun _ _ h => h) (keptA_S w S g.ok hc hat)
  · exact key _ (fun _ _ h => h) (keptB_S w S g.ok hc hat)
theorem Gp.coll (hc : S.inner.length ≤ 10)
    (g : Gp w wi kw feed cells vs n1 n2 S t nx) (B : Below A₀ base outer h₀) (F : Fr h₀ L s.heap m) (X : (hd.heap_39 w.params).In h₀) (N : News h₀ L s.heap news) (T : Top p loose mean mg mb h₀) (hk : cs.kind = .function)
    (hs : ∀ p ∈ nx ++ ex, p ∈ news) (hex : Apart nx ex)
    (hret : ∀ S' nx' h' tk', S'.inner = S.inner → Gp w wi kw feed cells vs n1 n2 S' t nx' → Fr h₀ L h' m → News h₀ L h' (nx' ++ ex) → Apart nx' ex → Q (.bool true) { s with heap := h', toks := tk' }) :
    wpAny (model PySem.Challenge.rw_rh0226_01.prog w) (ktrTop 302 7 (some []) cn cs L a ccd cl outer) (call (.ref 330) [.ref wi, .ref kw]) Q E s := by
  obtain rfl := g.wi
  obtain rfl := g.kw
  refine g.use (fun r S' => r = .bool true ∧ S'.inner = S.inner) (coll_C w S g.ok hc) (fun r ft hP => ?_) B F X N T hk hs hex fun r S' nx' h' tk' hR g' F' N' ha => ?_
  · obtain ⟨rfl, S', ok', rfl, e1, e2, _, e4⟩ := hP
    exact ⟨S', ⟨rfl, e4⟩, ok', rfl, e1, e2⟩
  · obtain ⟨rfl, e⟩ := hR
    exact hret S' nx' h' tk' e g' F' N' ha
end
theorem sub_nil {a : Led} : ∀ p ∈ ([] : Led), p ∈ a := fun _ h => nomatch h
theorem sub_cons {a b : Led} {q : Addr × Obj} (h : q ∈ a) (r : ∀ p ∈ b, p ∈ a) : ∀ p ∈ q :: b, p ∈ a := fun p hp => by
  rcases List.mem_cons.mp hp with rfl | hp
  · exact h
  · exact r p hp
theorem fold_world {w : World} {g h : Heap} {L : Addr} {H aside store x d : Addr} {oH oa os ox : Obj} {rest : Led} {k0 k1 k2 k3 k4 k5 k6 k7 k8 k9 k10 k11 k12 k13 k14 k15 k16 k17 k18 k19 k20 k21 k22 k23 k24 k25 k26 k27 tm : Tok} {v1 v2 v3 v6 v7 v8 v9 v10 v11 v12 v13 v14 v15 v16 v17 v18 v22 v23 v24 v25 : Value}
    (N : News g L h ((H, oH) :: (aside, oa) :: (store, os) :: (x, ox) :: (d, dictOf [en w "width" k0 (.int 32 k26), en w "most_steps" k1 v1, en w "most_depth" k2 v2, en w "most_length" k3 v3, en w "most_items" k4 (.int 20000 k27), en w "store" k5 (.ref store), en w "functions" k6 v6, en w "labels" k7 v7, en w "keywords" k8 v8, en w "opsyns" k9 v9, en w "inputs" k10 v10, en w "outputs" k11 v11, en w "traces" k12 v12, en w "read_names" k13 v13, en w "write_names" k14 v14, en w "traced" k15 v15, en w "steps" k16 v16, en w "depth" k17 v17, en w "nested" k18 v18, en w "aside" k19 (.ref aside), en w "made" k20 (.int 0 tm), en w "holders" k21 (.ref H), en w "evaluate" k22 v22, en w "make_code" k23 v23, en w "matcher" k24 v24, en w "kept_names" k25 v25] 26) :: rest)) :
    ∃ ks V, News g L h ((H, oH) :: (aside, oa) :: (store, os) :: (x, ox) :: (d, dictOf (wEs w ks V store aside H 0 tm) 26) :: rest) :=
  ⟨fun i => [k0, k1, k2, k3, k4, k5, k6, k7, k8, k9, k10, k11, k12, k13, k14, k15, k16, k17, k18, k19, k20, k21, k22, k23, k24, k25, k26, k27].getD i 0, fun i => [.none, v1, v2, v3, .none, .none, v6, v7, v8, v9, v10, v11, v12, v13, v14, v15, v16, v17, v18, .none, .none, .none, v22, v23, v24, v25].getD i .none, N⟩
theorem init_S {w : World} {g h : Heap} {L : Addr} {va Hd I T kw H aside store x d feed cells : Addr} {ova okw os : Obj} {ks : Nat → Tok} {V : Nat → Value} {tm tk1 ta tb : Tok} {vs : List Value} {n1 n2 : Nat} {k1 k2 k3 : List (Str × Value)} {tup : Addr × Obj}
    (N : News g L h ((va, ova) :: (Hd, listOf #[] 0) :: (I, listOf #[] 0) :: (T, listOf #[] 0) :: (kw, okw) :: tup :: (H, listOf #[] 0) :: (aside, listOf #[] 0) :: (store, os) :: (x, instObj 231 d) :: (d, dictOf (wEs w ks V store aside H 0 tm) 26) :: (feed, listOf #[.ref cells, .int 0 tk1] n1) :: (cells, listOf vs.toArray n2) :: []))
    (hnd : PairN [va, Hd, I, T, kw, H, aside, store, x, d, feed, cells])
    (l1 : (store == sysModules) = false) (l2 : (kw == sysModules) = false) (l3 : (va == sysModules) = false)
    (s1 : SD w os k1) (s2 : SD w okw k2) (s3 : SD w ova k3) (e1 : k1 = []) (e2 : k2 = kvK T I Hd va) (e3 : k3 = [(Str.ofString "A", .int (-1) ta), (Str.ofString "B", .int (-1) tb)]) :
    ∃ S nx, Gp w x kw feed cells vs n1 n2 S 0 nx ∧ News g L h nx ∧ S.inner = [] := by
  subst e1 e2 e3
  simp only [PairN, NeL, and_true] at hnd
  repeat (rename _ ∧ _ => hc; rcases hc with ⟨_, _⟩)
  refine ⟨{ wi := x, wd := d, store := store, aside := aside, H := H, kw := kw, va := va, T := T, I := I, Hd := Hd, na := 0, nh := 0, nT := 0, nI := 0, nHd := 0, hs := [], tv := [], iv := [], hv := [], ks := ks, V := V, made := 0, tm := tm, os := os, okw := okw, ova := ova, cells := [], kvs := [], kvv := [(Str.ofString "A", .int (-1) ta), (Str.ofString "B", .int (-1) tb)], a := -1, b := -1, ta := ta, tb := tb, inner := [], hl := [] }, _, ⟨⟨tk1, rfl⟩, ?ok, ?ap, ?ne, rfl, rfl⟩, newsSub N ?sub, rfl⟩
  case sub =>
    intro p hp
    simp only [St.led, cwLed, cellsLed, List.flatMap_nil, fl, List.cons_append, List.nil_append, List.mem_cons, List.not_mem_nil, or_false] at hp ⊢
    rcases hp with h | h | h | h | h | h | h | h | h | h | h | h <;> simp only [h, true_or, or_true]
  case ne => exact NE.l (by assumption)
  case ap =>
    intro p hp
    simp only [St.led, cwLed, cellsLed, List.flatMap_nil, List.cons_append, List.nil_append, List.mem_cons, List.not_mem_nil, or_false] at hp
    rcases hp with rfl | rfl | rfl | rfl | rfl | rfl | rfl | rfl | rfl | rfl <;> exact ⟨NE.l (by assumption), NE.l (by assumption)⟩
  case ok =>
    refine { nd := ?nd, gg := ⟨rfl, fun i q h => by simp [sk] at h, fun i q k h => by simp [sk] at h⟩, kd := s2, vd := s3, sd := s1, k1 := (fun k hk => nomatch hk), k2 := fun k hk => by simpa using hk, xa := ?xa, xb := ?xb, la := by show (-1 : Int) < _; simp, lb := by show (-1 : Int) < _; simp, vA := .inl ⟨(by show (-1:Int) < 0; decide), (fun y hy => nomatch hy)⟩, vB := .inl ⟨(by show (-1:Int) < 0; decide), (fun y hy => nomatch hy)⟩, tv := rfl, iv := .nil, hv := .nil, hp := .nil, hn := Nat.le_refl _, md := rfl, ib := (fun k hk => nomatch hk), lo1 := l1, lo2 := l2, lo3 := l3 }
    case xa => with_unfolding_all rfl
    case xb => with_unfolding_all rfl
    case nd =>
      simp only [St.led, cwLed, cellsLed, List.flatMap_nil, NDL, NeAll, and_true]
      (repeat' refine And.intro ?_ ?_) <;> first | assumption | (refine NE.symm ?_; assumption)
section
variable {prog : Program} {w : World} {A : Around} {E : Value → Shared → Prop} {h : Heap} {g : Array GenState} {d : Drawn} {t : Nat} {os : OsState}
variable {nm q : Str} {C N x : Addr} {bs bm : List Value} {hdct : Bool} {sn : List Str} {sub : List Value} {ab : Bool} {col : Option Bool} {dd : Option Addr} {k0 k1 k2 k3 k5 : Option Value} {newId : String} {o : Obj}
theorem rf_same {M : Model} {α : Type} {k : Bool → Sem α} {Q : α → Shared → Prop} {s : Shared} (hq : wpAny M A (k false) Q E s) : wpAny M A (if Value.ref C != Value.ref C then isSubtype (.ref C) (.ref C) >>= k else pure false >>= k) Q E s := by
  rw [if_neg (by simp)]
  exact wpAny_bind (wpAny_pure hq)
/-- an object is like itself: its class and those above it have no `__eq__` of their own -/
theorem eq_same_X (hx : h.get? x = some o) (hc : o.cls = .ref C) (hC : h.get? C = some (excClassObj nm q C N bs bm hdct sn sub ab col dd k0 k1 k2 k3 k5 newId)) (hob : bm.contains (.type "object") = true)
    (hl : Looks (model prog w) h (typeLookup (.ref C) "__eq__") (some (.builtin "object.__eq__"))) (hu : A.units < cLine) {Q : Value → Shared → Prop} (hq : Q (.bool true) ⟨h, g, d, t, os⟩) :
    wpAny (model prog w) A (compareOp .Eq (.ref x) (.ref x)) Q E ⟨h, g, d, t, os⟩ := by
  have FB := PySem.F.cmp_object
  have hcall : ∀ {Q : Value → Shared → Prop}, Q (.bool true) ⟨h, g, d, t, os⟩ → wpAny (model prog w) A (call (.builtin "object.__eq__") [.ref x, .ref x]) Q E ⟨h, g, d, t, os⟩ := fun hq =>
    wpAny_call (codeAny_call_builtin FB.eq.plain PySem.F.cmpEntry_eq (wpAny_check_slot_inst PySem.F.cmpKind_eq PySem.F.cmpSplit_eq (PySem.F.cmpArgs_eq _ _) hob hx hc hC (objEq_entry_same hq)))
  have hsp : ∀ {Q : Option Value → Shared → Prop}, Q (some (.bool true)) ⟨h, g, d, t, os⟩ → wpAny (model prog w) A (callSpecialIfBound? (.ref x) "__eq__" [.ref x]) Q E ⟨h, g, d, t, os⟩ := fun {Q} hq => by
    simp only [callSpecialIfBound?, bindSpecialIfBound?]
    refine wpAny_holding (wpAny_bind (wpAny_bind ?_))
    have hty : ∀ {Q : Option Value → Shared → Prop}, Q (some (.builtin "object.__eq__")) ⟨h, g, d, t, os⟩ → wpAny (model prog w) A (specialOf (.ref x) "__eq__") Q E ⟨h, g, d, t, os⟩ := fun hq => by
      unfold specialOf
      refine wpAny_bind ?_
      simp only [typeOf]
      refine wpAny_bind (wpAny_loadPart hx (wpAny_pure ?_))
      rw [hc]
      exact hl.at hq
    refine hty ?_
    simp only [FB.eq.bind]
    refine wpAny_bind (wpAny_askSetting (wpAny_ite ?_))
    have fin : wpAny (model prog w) A (call (.builtin "object.__eq__") ([.ref x] ++ [.ref x]) >>= fun v => pure (some v)) Q E ⟨h, g, d, t, os⟩ :=
      wpAny_bind (wpAny_mono (hcall (Q := fun v s => Q (some v) s) hq) (fun v s' h' => wpAny_pure h') fun _ _ h' => h')
    split
    · exact wpAny_bind (wpAny_pure (wpAny_pure fin))
    · exact wpAny_tryCatch (wpAny_bind (wpAny_pure (wpAny_pure fin)))
  have htc : ∀ {Q : Option Value → Shared → Prop}, Q (some (.bool true)) ⟨h, g, d, t, os⟩ → wpAny (model prog w) A (tryCompare (.ref x) "__eq__" (.ref x)) Q E ⟨h, g, d, t, os⟩ := fun hq => by
    simp only [tryCompare]
    exact wpAny_bind (hsp (wpAny_pure hq))
  show wpAny (model prog w) A (richCompare .Eq (.ref x) (.ref x)) Q E ⟨h, g, d, t, os⟩
  simp only [richCompare, cmpInfo_Eq, oneThing_ref]
  repeat (first | with_reducible refine wpAny_cRoomFor hu ?_ | (with_reducible refine wpAny_loadPart_at hx ?_; rw [hc]) | with_reducible refine rf_same ?_ | with_reducible refine htc ?_ | wp_step)
  exact hq
end
noncomputable abbrev M3 (kw wi feed : Addr) (m : Str → Option Value) : Str → Option Value := fun y => if y = Str.ofString "know" then some (.ref kw) else if y = Str.ofString "world" then some (.ref wi) else if y = Str.ofString "feed" then some (.ref feed) else m y
structure H3 (kw wi feed : Addr) (m : Str → Option Value) : Prop where
  a : m (Str.ofString "know") = some (.ref kw)
  b : m (Str.ofString "world") = some (.ref wi)
  c : m (Str.ofString "feed") = some (.ref feed)
theorem H3.eq {kw wi feed : Addr} {m : Str → Option Value} (h : H3 kw wi feed m) : M3 kw wi feed m = m := by
  funext y
  by_cases h0 : y = Str.ofString "know"
  · subst h0; with_unfolding_all exact h.a.symm
  · by_cases h1 : y = Str.ofString "world"
    · subst h1; with_unfolding_all exact h.b.symm
    · by_cases h2 : y = Str.ofString "feed"
      · subst h2; with_unfolding_all exact h.c.symm
      · simp only [M3, h0, h1, h2, if_false]
theorem H3.put {kw wi feed : Addr} {m : Str → Option Value} {x : Str} {v : Option Value} (h : H3 kw wi feed m) (h0 : x ≠ Str.ofString "know") (h1 : x ≠ Str.ofString "world") (h2 : x ≠ Str.ofString "feed") : H3 kw wi feed (fun y => if y = x then v else m y) :=
  ⟨by rw [if_neg h0.symm]; exact h.a, by rw [if_neg h1.symm]; exact h.b, by rw [if_neg h2.symm]; exact h.c⟩
theorem H3.m3 {kw wi feed : Addr} {m : Str → Option Value} : H3 kw wi feed (M3 kw wi feed m) := ⟨by with_unfolding_all rfl, by with_unfolding_all rfl, by with_unfolding_all rfl⟩
theorem sub_swap {a b : Led} : ∀ p ∈ a ++ b, p ∈ b ++ a := fun p hp => by
  rcases List.mem_append.mp hp with h | h
  · exact List.mem_append_right _ h
  · exact List.mem_append_left _ h
theorem apart_I {I : Addr} {it : Obj} {nx : Led} (h : NeAll I nx) : Apart nx [(I, it)] := fun p hp q hq e => by
  rcases List.mem_cons.mp hq with rfl | hq
  · exact h.mem p hp e
  · cases hq
theorem sub_lst {q u r : Addr × Obj} {nx : Led} : ∀ p ∈ nx ++ [q, r], p ∈ q :: u :: (nx ++ [r]) := fun p hp => by
  simp only [List.mem_append, List.mem_cons, List.not_mem_nil, or_false] at hp ⊢
  rcases hp with h | h | h <;> simp only [h, true_or, or_true]
theorem sub_lst2 {q r : Addr × Obj} {nx : Led} : ∀ p ∈ q :: (nx ++ [r]), p ∈ nx ++ [q, r] := fun p hp => by
  simp only [List.mem_append, List.mem_cons, List.not_mem_nil, or_false] at hp ⊢
  rcases hp with h | h | h <;> simp only [h, true_or, or_true]
theorem apart_lst {l : Addr} {o : Obj} {r : Addr × Obj} {nx : Led} (h : AllLt l (nx ++ [r])) (h2 : Apart nx [r]) : Apart nx [(l, o), r] := fun p hp q hq => by
  rcases List.mem_cons.mp hq with rfl | hq
  · exact Nat.ne_of_lt (ktn_ltOf h p (List.mem_append_left _ hp))
  · exact h2 p hp q hq
theorem apart_tl {q r : Addr × Obj} {nx : Led} (h : Apart nx [q, r]) : Apart nx [r] := fun p hp x hx => h p hp x (.tail _ hx)
theorem off_I {I : Addr} {it : Obj} {nx : Led} (h : Apart nx [(I, it)]) : ∀ p ∈ nx, p.1 ≠ I := fun p hp => h p hp _ (.head _)
section
variable {prog : Program} {w : World} {A : Around} {E : Value → Shared → Prop} {s : Shared} {h₀ : Heap} {L : Addr} {news nx : Led} {Q : Value → Shared → Prop} {value slice : PySem.Expr} {wi kw feed cells : Addr} {vs : List Value} {n1 n2 : Nat} {S : St} {t : Int} {u : Tok}
theorem Gp.things (g : Gp w wi kw feed cells vs n1 n2 S t nx) (N : News h₀ L s.heap news) (hs : ∀ p ∈ nx, p ∈ news) (h : Q (.ref S.T) { s with toks := s.toks + 1 })
    (hs' : subscripted slice false (.ref kw) (.str (Str.ofString "things") u) = operate [.ref kw, .str (Str.ofString "things") u] (getItem (.ref kw) (.str (Str.ofString "things") u)) := by with_unfolding_all rfl) (hg : ∀ r, letTemporaryGo value (.ref kw) r = pure () := by intro _; with_unfolding_all rfl) :
    wpAny (model PySem.Challenge.rw_rh0226_01.prog w) A (subscriptTail value slice (.ref kw) (.str (Str.ofString "things") u)) Q E s := by
  obtain rfl := g.kw
  obtain ⟨tk1, rfl⟩ := g.eq
  exact kda_item (knd := PySem.strKind _ _) (v := Value.ref S.T) N (hs _ (.head _)) g.ok.kd (strKind_is _ _ _ _) (by rfl) h hs' hg
theorem Gp.tvl (g : Gp w wi kw feed cells vs n1 n2 S t nx) : S.tv.length = S.inner.length := by
  have := g.ok.gg.len
  rw [g.ok.tv, List.length_map]
  rw [sk, List.length_map] at this
  exact this
theorem Gp.len (g : Gp w wi kw feed cells vs n1 n2 S t nx) (N : News h₀ L s.heap news) (hs : ∀ p ∈ nx, p ∈ news) (hc : S.inner.length ≤ 10) (h : Q (.int (S.inner.length : Nat) (s.toks + 1)) { s with toks := s.toks + 1 + 1 }) :
    wpAny (model prog w) A (call (.builtin "len") [.ref S.T]) Q E s := by
  have e := g.tvl
  obtain ⟨tk1, rfl⟩ := g.eq
  refine len_L N (hs _ (.tail _ (.tail _ (.head _)))) (by rw [List.size_toArray, e]; omega) ?_
  rw [List.size_toArray, e]
  exact h
end
theorem take_last {α : Type} {l : List α} {i : Nat} {x : α} (hl : l.length = i + 2) (hx : l[i + 1]? = some x) : l = l.take (i + 1) ++ [x] := by
  obtain ⟨h, e⟩ := List.getElem?_eq_some_iff.mp hx
  rw [← e, List.take_append_getElem h]
  exact (List.take_of_length_le (by omega)).symm
theorem Gp.fin {w : World} {wi kw feed cells : Addr} {vs : List Value} {n1 n2 : Nat} {S : St} {t : Int} {nx : Led} (g : Gp w wi kw feed cells vs n1 n2 S t nx) (i : Nat) (hl : S.inner.length = i + 2) (hk : S.inner[i]? = some ((i : Nat) + 1 : Int)) :
    ∃ (x : Arr) (mk : Int) (tmk : Tok) (a2 d2 : Addr) (pre : List Value), S.tv.toArray[((i : Nat) : Int).toNat]? = some (Value.ref x.a) ∧ S.tv = pre ++ [Value.ref a2] ∧
      (∀ p ∈ (S.T, listOf S.tv.toArray S.nT) :: (x.a, instObj 152 x.d) :: (x.d, dictOf (arrEs w x mk tmk) 6) :: (x.i, listOf #[Value.ref a2, .str (Str.ofString "x") x.tx] 0) :: (a2, instObj 152 d2) :: nx, p ∈ nx) := by
  have hc : S.cells.length = i + 2 := by
    have := g.ok.gg.len
    rw [sk, List.length_map] at this
    omega
  obtain ⟨c, hc1⟩ : ∃ c, S.cells[i]? = some c := ⟨_, List.getElem?_eq_getElem (by omega)⟩
  obtain ⟨c', hc2⟩ : ∃ c, S.cells[i + 1]? = some c := ⟨_, List.getElem?_eq_getElem (by omega)⟩
  have hv : c.v0 = Value.ref c'.x.a := by
    rcases g.ok.gg.pts i (c.x, c.v0) _ (by rw [sk, List.getElem?_map, hc1]; rfl) hk with ⟨h, _⟩ | ⟨_, r, hr, e⟩
    · omega
    · have e1 : ((i : Nat) + 1 : Int).toNat = i + 1 := by omega
      rw [e1, sk, List.getElem?_map, hc2] at hr
      obtain rfl := Option.some.inj hr
      exact e
  refine ⟨c.x, c.mrk, c.tmk, c'.x.a, c'.x.d, S.tv.take (i + 1), ?_, ?_, ?_⟩
  · rw [g.ok.tv]
    simp [hc1]
  · refine take_last (by rw [g.ok.tv, List.length_map, hc]) ?_
    rw [g.ok.tv, List.getElem?_map, hc2]
    rfl
  · obtain ⟨tk1, rfl⟩ := g.eq
    have h1 : ∀ p ∈ cellLed w c, p ∈ St.led w S ++ fl feed cells t tk1 vs n1 n2 := fun p hp => List.mem_append_left _ (by
      have := (cells_perm w hc1).mem_iff.mpr (List.mem_append_left _ hp)
      simp only [St.led, cwLed, List.mem_append, List.mem_cons, this, true_or, or_true])
    have h2 : ∀ p ∈ cellLed w c', p ∈ St.led w S ++ fl feed cells t tk1 vs n1 n2 := fun p hp => List.mem_append_left _ (by
      have := (cells_perm w hc2).mem_iff.mpr (List.mem_append_left _ hp)
      simp only [St.led, cwLed, List.mem_append, List.mem_cons, this, true_or, or_true])
    intro p hp
    rcases List.mem_cons.mp hp with rfl | hp
    · exact .tail _ (.tail _ (.head _))
    rcases List.mem_cons.mp hp with rfl | hp
    · exact h1 _ (.head _)
    rcases List.mem_cons.mp hp with rfl | hp
    · exact h1 _ (.tail _ (.head _))
    rcases List.mem_cons.mp hp with rfl | hp
    · exact h1 _ (.tail _ (.tail _ (by rw [hv]; exact .head _)))
    rcases List.mem_cons.mp hp with rfl | hp
    · exact h2 _ (.head _)
    exact hp
theorem fn_inj {oc oc' : Value} {od od' : Option Addr} {osl osl' : Array (Option Value)} {name qual name' qual' : Str} {params params' : Arguments} {body body' : List Stmt} {scope scope' : Scope} {dV kV doc pm cdv ct dV' kV' doc' pm' cdv' ct' : Value} {an an' : Option Addr}
    (h : (some ⟨oc, od, .func (fnOf name qual params body scope dV kV doc pm an cdv ct), osl⟩ : Option Obj) = some ⟨oc', od', .func (fnOf name' qual' params' body' scope' dV' kV' doc' pm' an' cdv' ct'), osl'⟩) : body = body' ∧ scope = scope' ∧ qual = qual' := by
  injection h with h
  injection h with _ _ h _
  injection h with h
  injection h with h1 h2 h3 h4 h5
  injection h4 with h4
  exact ⟨h4, h5, h2⟩
theorem lawTail {w : World} {oc : Value} {od : Option Addr} {osl : Array (Option Value)} {name qual : Str} {params : Arguments} {body : List Stmt} {scope : Scope} {dV kV doc pm cdv ct : Value} {an : Option Addr}
    (hK : (hd.heap_39 w.params).lookup 337 = some ⟨oc, od, .func (fnOf name qual params body scope dV kV doc pm an cdv ct), osl⟩)
    {base h₀ : Heap} {L f feed cells wi kw : Addr} {cc : Value} {m : Str → Option Value} {s : Shared} {Q : Flow → Shared → Prop} {E : Value → Shared → Prop} {p : Program} {loose : List Str} {mean : ExcName → Option Value} {mg mb : Str → Option Value} {vs : List Value} {ns : List Int} {n1 n2 : Nat} {S : St} {nx : Led}
    (B : Below callerA base [] h₀) (F : Fr h₀ L s.heap (M3 kw wi feed m))
    (X : (hd.heap_39 w.params).In h₀) (N : News h₀ L s.heap nx) (T : Top p loose mean mg mb h₀)
    (g : Gp w wi kw feed cells vs n1 n2 S 0 nx) (hi : S.inner = []) (hI : IntsAre vs ns) (hl : ns.length ≤ 30)
    (hE : PassesOwn (model PySem.Challenge.rw_rh0226_01.prog w) (callerA.deeper (envOf qual scope L f cc)) (envOf qual scope L f cc) E)
    (hret : ∀ h' tk' m' nw, Fr h₀ L h' m' → News h₀ L h' nw → Q (.ret (.bool true)) { s with heap := h', toks := tk' }) :
    wpAny (model PySem.Challenge.rw_rh0226_01.prog w) (callerA.deeper (envOf qual scope L f cc)) (execs (body.drop 2) (envOf qual scope L f cc)) Q E s := by
  k_with_none
  k_with "pyIter ref" => (refine stop_ ?_)
  k_with "call builtin:len" => (k_here; (with_reducible show wpAny _ _ (call (Value.builtin "len") [Value.ref _]) _ _ _); k_dflt (refine' len_L ?zN ?zm ?zf ?_; (case zN => k_asm); (case zm => k_mem); (case zf => (simp only [List.size_toArray]; omega))); (try simp only [List.size_toArray]))
  k_with "subscriptTail" => (k_here; (with_reducible show wpAny _ _ (subscriptTail _ _ (Value.ref _) (Value.int _ _)) _ _ _); k_dflt (refine' item_L ?zN ?zm ?zh0 ?zhf ?zhx ?_; (case zN => k_asm); (case zm => k_mem); (case zhx => first | assumption | with_unfolding_all rfl); (case zh0 => omega); (case zhf => omega)))
  k_with "subscriptTail" => (k_here; (with_reducible show wpAny _ _ (subscriptTail _ _ (Value.ref _) (Value.str _ _)) _ _ _); k_dflt (refine kda_item (knd := PySem.strKind _ _) (v := Value.ref _) (by k_asm) (by k_mem) (by k_asm) (strKind_is _ _ _ _) (by rfl) ?_))
  k_with "UnrPost" => (refine stop_ ?_)
  k_with "exec For Name Call cons nil" => (k_here; refine stop_ ?_)
  k_with "call ref" => (k_here; (with_reducible show wpAny _ _ (call (Value.ref 304) _) _ _ _); refine stop_ ?_)
  k_with "call ref" => (k_here; (with_reducible show wpAny _ _ (call (Value.ref 311) _) _ _ _); refine stop_ ?_)
  k_with "call ref" => (k_here; (with_reducible show wpAny _ _ (call (Value.ref 318) _) _ _ _); refine stop_ ?_)
  k_with "call ref" => (k_here; (with_reducible show wpAny _ _ (call (Value.ref 325) _) _ _ _); refine stop_ ?_)
  k_with "call ref" => (k_here; (with_reducible show wpAny _ _ (call (Value.ref 330) _) _ _ _); refine stop_ ?_)
  k_with "call type:range" => (k_here; (rename Fr _ _ _ _ => F'k); (rename News _ _ _ _ => N'k); (with_unfolding_all refine range1_rows F'k N'k ?_); intro _ _ _ _ _ _ _ _ _)
  k_with "subscriptTail" => (k_here; (with_reducible show wpAny _ _ (subscriptTail _ _ (Value.ref _) (Value.str _ _)) _ _ _); refine stop_ ?_)
  k_with "call builtin:len" => (k_here; refine stop_ ?_)
  k_with "storeName" => (k_here; k_dflt (refine' storeX_L ?zF ?zN ?_ ?za ?zb; (case zF => k_asm); (case zN => k_asm); (case za => rfl); (case zb => rfl); k_whole); intro h'k F'k N'k)
  k_with "subscriptTail" => (k_here; (with_reducible show wpAny _ _ (subscriptTail _ (PySem.Expr.UnaryOp _ _ _) (Value.ref _) _) _ _ _); refine stop_ ?_)
  revert X; k_fill; intro X
  revert hK; k_fill; intro hK
  obtain ⟨rfl, rfl, rfl⟩ := fn_inj (hK.symm.trans (by k_is))
  (try clear hK)
  dsimp only [List.drop]
  k_steps
  unfold Stop
  rename Fr _ _ _ _ => F1
  with_unfolding_all refine' For_invVF F1 ?k1 ?k2 ?_ ?_ hE
  case k1 => exact rfl
  case k2 => exact rfl
  rotate_left
  k_whole
  k_steps
  unfold Stop
  k_dflt (refine' Gp.next (ex := []) hI hl (by decide) (by decide) (by decide) (by decide) g B F1 X N T rfl (by simp only [List.append_nil]; exact fun _ h => h) (fun _ _ _ h => nomatch h) ?_)
  intro k tr nx1 h1 tk1 hk0 hk1 g1 F2 N2 _
  k_steps
  unfold Stop
  rename IsRange _ _ _ _ _ _ _ _ => hR
  rename Fr _ _ _ _ => F3
  rename News _ _ _ _ => N3
  replace N3 := newsSub N3 (b := nx1) (fun _ h => List.mem_append_left _ h)
  refine iter_R (n := (1 + k).toNat) (fun i mm nx => ∃ S', Gp w wi kw feed cells vs n1 n2 S' 1 nx ∧ S'.inner.length = i ∧ H3 kw wi feed mm) rfl hR (by omega) (by omega) F3 N3 ⟨S, g1, by rw [hi]; rfl, .m3⟩ ?turn ?done
  case turn =>
    clear hR F3 N3 N F1; (try clear N2); (try clear F2)
    intro I i mm nx t' it h₃ tk₃ hit hin hJ hIx F₃ N₃
    obtain ⟨S₁, gS, hlen, hm⟩ := hJ
    replace hm := hm.put (x := Str.ofString "turn") (v := some (.int (0 + (i : Int)) t')) (by decide) (by decide) (by decide)
    rw [← hm.eq] at F₃
    k_steps
    unfold Stop
    k_dflt (refine' Gp.made (ex := [(I, it)]) (by omega) gS B F₃ X N₃ T rfl sub_swap (apart_I hIx) ?_)
    intro tr S₂ nx₂ h₄ tk₄ hin2 gS2 F₅ N₅ ha
    k_steps
    unfold Stop
    refine UnrEnd.intro F₅ N₅ nx₂ ?sub (off_I ha) ⟨S₂, gS2, ?len, .m3⟩
    case sub => exact fun p hp => sub_swap (a := [(I, it)]) p hp
    case len => rw [hin2, List.length_append, hlen]; rfl
  case done =>
    clear hR F3 N3 N F1; (try clear N2); (try clear F2)
    intro mm nx h₃ tk₃ hJ F₃ N₃
    obtain ⟨S₁, gS, hlen, hm⟩ := hJ
    rw [← hm.eq] at F₃
    k_steps
    unfold Stop
    rename Fr _ _ _ _ => F4
    with_unfolding_all refine' For_invVF F4 ?k3 ?k4 ?_ ?_ hE
    case k3 => exact rfl
    case k4 => exact rfl
    rotate_left
    k_whole
    k_steps
    unfold Stop
    k_dflt (refine' Gp.next (ex := []) hI hl (by decide) (by decide) (by decide) (by decide) gS B F4 X N₃ T rfl (by simp only [List.append_nil]; exact fun _ h => h) (fun _ _ _ h => nomatch h) ?_)
    (try clear F4); (try clear F₃); (try clear N₃); (try clear g); (try clear g1); (try clear gS); (try clear hm)
    intro k2 tr2 nx2 h5 tk5 hk2 hk3 g2 F5 N5 _
    k_steps
    unfold Stop
    rename IsRange _ _ _ _ _ _ _ _ => hR
    rename Fr _ _ _ _ => F6
    rename News _ _ _ _ => N6
    replace N6 := newsSub N6 (b := nx2) (fun _ h => List.mem_append_left _ h)
    refine iter_R (n := k2.toNat) (fun i mm nx => ∃ S' t, Gp w wi kw feed cells vs n1 n2 S' t nx ∧ 0 ≤ t ∧ t ≤ 2 + 3 * (i : Int) ∧ 1 ≤ S'.inner.length ∧ S'.inner.length ≤ 6 ∧ H3 kw wi feed mm) rfl hR (by omega) (by omega) F6 N6 ⟨S₁, _, g2, by decide, by decide, by omega, by omega, .m3⟩ ?turn2 ?done2
    case turn2 =>
      clear hR F6 N6 g2; (try clear N5); (try clear F5)
      intro I i mm nx t' it h₃ tk₃ hit hin hJ hIx F₃ N₃
      obtain ⟨S₁, t, gS, ht0, ht1, hl1, hl2, hm⟩ := hJ
      replace hm := hm.put (x := Str.ofString "turn") (v := some (.int (0 + (i : Int)) t')) (by decide) (by decide) (by decide)
      rw [← hm.eq] at F₃
      k_steps
      unfold Stop
      k_dflt (refine' Gp.next (ex := [(I, it)]) hI hl ht0 (by omega) (by decide) (by decide) gS B F₃ X N₃ T rfl sub_swap (apart_I hIx) ?_)
      (try clear F₃); (try clear N₃); (try clear gS); (try clear hIx)
      intro form trf nx₁ h₄ tk₄ hf0 hf1 gS F₃ N₃ hIx
      k_steps
      unfold Stop
      k_dflt (refine' Gp.things gS N₃ (fun _ h => List.mem_append_left _ h) ?_)
      k_steps
      unfold Stop
      k_dflt (refine' Gp.len gS N₃ (fun _ h => List.mem_append_left _ h) (by omega) ?_)
      k_steps
      · unfold Stop
        rename Fr _ _ _ _ => F₅
        rename News _ _ _ _ => N₅
        k_dflt (refine' Gp.next (ex := [(I, it)]) hI hl (by omega) (by omega) (by omega) (by omega) gS B F₅ X N₅ T rfl (fun _ h => .tail _ h) hIx ?_)
        (try clear F₅); (try clear N₅); (try clear gS); (try clear hIx)
        intro k5 tr5 nx₅ h₅ tk₅ hk50 hk51 gS F₅ N₅ hIx
        k_steps
        unfold Stop
        k_dflt (refine' Gp.next (ex := [(I, it)]) hI hl (by omega) (by omega) (by omega) (by omega) gS B F₅ X N₅ T rfl (fun _ h => h) hIx ?_)
        (try clear F₅); (try clear N₅); (try clear gS); (try clear hIx)
        intro k6 tr6 nx₆ h₆ tk₆ hk60 hk61 gS F₅ N₅ hIx
        k_steps
        unfold Stop
        k_dflt (refine' Gp.given (ex := [(I, it)]) (by omega) (by omega) (by omega) (by omega) (by omega) gS B F₅ X N₅ T rfl (fun _ h => h) hIx ?_)
        (try clear F₅); (try clear N₅); (try clear gS); (try clear hIx)
        intro S₉ nx₉ h₉ tk₉ hin9 gS F₅ N₅ hIx
        k_steps
        unfold Stop
        rename Fr _ _ _ _ => F₅
        rename News _ _ _ _ => N₅
        refine UnrEnd.intro F₅ N₅ nx₉ (fun p hp => sub_swap (a := [(I, it)]) p hp) (off_I hIx) ⟨S₉, _, gS, ?t0, ?t1, ?l0, ?l1, H3.put (H3.put .m3 (by decide) (by decide) (by decide)) (by decide) (by decide) (by decide)⟩
        case t0 => omega
        case t1 => omega
        case l0 => rw [hin9, List.length_set]; omega
        case l1 => rw [hin9, List.length_set]; omega
      · unfold Stop
        rename _ ∧ AllLt _ _ => hall
        rename Fr _ _ _ _ => F₅
        rename News _ _ _ _ => N₅
        k_dflt (refine' Gp.next (ex := [_, (I, it)]) hI hl (by omega) (by omega) (by omega) (by omega) gS B F₅ X N₅ T rfl sub_lst (apart_lst hall.2 hIx) ?_)
        (try clear F₅); (try clear N₅); (try clear gS); (try clear hIx)
        intro k5 tr5 nx₅ h₅ tk₅ hk50 hk51 gS F₅ N₅ hIx
        replace N₅ := newsSub N₅ sub_lst2
        replace hIx := apart_tl hIx
        obtain rfl | rfl : k5 = 0 ∨ k5 = 1 := by omega
        all_goals
          k_steps
          unfold Stop
          k_dflt (refine' Gp.next (ex := [(I, it)]) hI hl (by omega) (by omega) (by omega) (by omega) gS B F₅ X N₅ T rfl (fun _ h => .tail _ h) hIx ?_)
          (try clear F₅); (try clear N₅); (try clear gS); (try clear hIx)
          intro k6 tr6 nx₆ h₆ tk₆ hk60 hk61 gS F₅ N₅ hIx
          k_steps
          unfold Stop
          k_dflt (refine' Gp.kept (ex := [(I, it)]) (by omega) (by first | exact .inl rfl | exact .inr rfl) (by omega) gS B F₅ X N₅ T rfl (fun _ h => h) hIx ?_)
          (try clear F₅); (try clear N₅); (try clear gS); (try clear hIx)
          intro S₉ nx₉ h₉ tk₉ hin9 gS F₅ N₅ hIx
          k_steps
          unfold Stop
          rename Fr _ _ _ _ => F₅
          rename News _ _ _ _ => N₅
          refine UnrEnd.intro F₅ N₅ nx₉ (fun p hp => sub_swap (a := [(I, it)]) p hp) (off_I hIx) ⟨S₉, _, gS, ?t0, ?t1, ?l0, ?l1, H3.put (H3.put .m3 (by decide) (by decide) (by decide)) (by decide) (by decide) (by decide)⟩
          case t0 => omega
          case t1 => omega
          case l0 => rw [hin9]; omega
          case l1 => rw [hin9]; omega
      · unfold Stop
        rename Fr _ _ _ _ => F₅
        rename News _ _ _ _ => N₅
        k_dflt (refine' Gp.made (ex := [(I, it)]) (by omega) gS B F₅ X N₅ T rfl (fun _ h => .tail _ h) hIx ?_)
        (try clear F₅); (try clear N₅); (try clear gS); (try clear hIx)
        intro tr9 S₉ nx₉ h₉ tk₉ hin9 gS F₅ N₅ hIx
        k_steps
        unfold Stop
        rename Fr _ _ _ _ => F₅
        rename News _ _ _ _ => N₅
        refine UnrEnd.intro F₅ N₅ nx₉ (fun p hp => sub_swap (a := [(I, it)]) p hp) (off_I hIx) ⟨S₉, _, gS, ?t0, ?t1, ?l0, ?l1, H3.put (H3.put .m3 (by decide) (by decide) (by decide)) (by decide) (by decide) (by decide)⟩
        case t0 => omega
        case t1 => omega
        case l0 => rw [hin9, List.length_append]; omega
        case l1 => rw [hin9, List.length_append]; simp only [List.length_cons, List.length_nil]; omega
      · unfold Stop
        rename Fr _ _ _ _ => F₅
        rename News _ _ _ _ => N₅
        k_dflt (refine' Gp.coll (ex := [(I, it)]) (by omega) gS B F₅ X N₅ T rfl (fun _ h => .tail _ h) hIx ?_)
        (try clear F₅); (try clear N₅); (try clear gS); (try clear hIx)
        intro S₉ nx₉ h₉ tk₉ hin9 gS F₅ N₅ hIx
        k_steps
        unfold Stop
        rename Fr _ _ _ _ => F₅
        rename News _ _ _ _ => N₅
        refine UnrEnd.intro F₅ N₅ nx₉ (fun p hp => sub_swap (a := [(I, it)]) p hp) (off_I hIx) ⟨S₉, _, gS, ?t0, ?t1, ?l0, ?l1, H3.put (H3.put .m3 (by decide) (by decide) (by decide)) (by decide) (by decide) (by decide)⟩
        case t0 => omega
        case t1 => omega
        case l0 => rw [hin9]; omega
        case l1 => rw [hin9]; omega
      · unfold Stop
        rename Fr _ _ _ _ => F₅
        rename News _ _ _ _ => N₅
        k_dflt (refine' Gp.coll (ex := [(I, it)]) (by omega) gS B F₅ X N₅ T rfl (fun _ h => .tail _ h) hIx ?_)
        (try clear F₅); (try clear N₅); (try clear gS); (try clear hIx)
        intro S₉ nx₉ h₉ tk₉ hin9 gS F₅ N₅ hIx
        k_steps
        unfold Stop
        rename Fr _ _ _ _ => F₅
        rename News _ _ _ _ => N₅
        refine UnrEnd.intro F₅ N₅ nx₉ (fun p hp => sub_swap (a := [(I, it)]) p hp) (off_I hIx) ⟨S₉, _, gS, ?t0, ?t1, ?l0, ?l1, H3.put (H3.put .m3 (by decide) (by decide) (by decide)) (by decide) (by decide) (by decide)⟩
        case t0 => omega
        case t1 => omega
        case l0 => rw [hin9]; omega
        case l1 => rw [hin9]; omega
    case done2 =>
      (try clear hR); (try clear F6); (try clear N6); (try clear g2); (try clear F5); (try clear N5)
      intro mm nx h₃ tk₃ hJ F₃ N₃
      obtain ⟨S₁, t, gS, ht0, ht1, hl1, hl2, hm⟩ := hJ
      rw [← hm.eq] at F₃
      replace N₃ := newsSub N₃ (b := nx ++ []) (by simp only [List.append_nil]; exact fun _ h => h)
      have hIx : Apart nx [] := fun _ _ _ h => nomatch h
      k_steps
      unfold Stop
      rename Fr _ _ _ _ => F₅
      rename News _ _ _ _ => N₅
      k_dflt (refine' Gp.made (ex := []) (by omega) gS B F₅ X N₅ T rfl (fun _ h => h) hIx ?_)
      (try clear F₅); (try clear N₅); (try clear F₃); (try clear N₃); (try clear gS); (try clear hIx)
      intro tr9 S₂ nx₂ h₂ tk₂ hin2 gS F₅ N₅ hIx
      have hlen2 : S₂.inner.length = S₁.inner.length + 1 := by rw [hin2, List.length_append]; rfl
      k_steps
      unfold Stop
      rename Fr _ _ _ _ => F₅
      rename News _ _ _ _ => N₅
      k_dflt (refine' Gp.coll (ex := []) (by omega) gS B F₅ X N₅ T rfl (fun _ h => h) hIx ?_)
      (try clear F₅); (try clear N₅); (try clear gS); (try clear hIx)
      intro S₃ nx₃ h₃ tk₃ hin3 gS F₅ N₅ hIx
      k_steps
      unfold Stop
      rename Fr _ _ _ _ => F₅
      rename News _ _ _ _ => N₅
      k_dflt (refine' Gp.kept (ex := []) (by rw [hin3]; omega) (.inl rfl) (by rw [hin3]; omega) gS B F₅ X N₅ T rfl (fun _ h => h) hIx ?_)
      (try clear F₅); (try clear N₅); (try clear gS); (try clear hIx)
      intro S₄ nx₄ h₄ tk₄ hin4 gS F₅ N₅ hIx
      k_steps
      unfold Stop
      rename Fr _ _ _ _ => F₅
      rename News _ _ _ _ => N₅
      k_dflt (refine' Gp.made (ex := []) (by rw [hin4, hin3]; omega) gS B F₅ X N₅ T rfl (fun _ h => h) hIx ?_)
      (try clear F₅); (try clear N₅); (try clear gS); (try clear hIx)
      intro tr10 S₅ nx₅ h₅ tk₅ hin5 gS F₅ N₅ hIx
      have hlen4 : S₄.inner.length = S₁.inner.length + 1 := by rw [hin4, hin3, hlen2]
      have hlen5 : S₅.inner.length = S₁.inner.length + 2 := by rw [hin5, List.length_append, hlen4]; rfl
      k_steps
      unfold Stop
      rename Fr _ _ _ _ => F₅
      rename News _ _ _ _ => N₅
      k_dflt (refine' Gp.given (ex := []) (by omega) (by omega) (by omega) (by omega) (by omega) gS B F₅ X N₅ T rfl (fun _ h => h) hIx ?_)
      (try clear F₅); (try clear N₅); (try clear gS); (try clear hIx)
      intro S₆ nx₆ h₆ tk₆ hin6 gS F₅ N₅ hIx
      k_steps
      unfold Stop
      rename Fr _ _ _ _ => F6
      rename News _ _ _ _ => N6
      with_unfolding_all refine' For_invVF F6 ?k5 ?k6 ?_ ?_ hE
      case k5 => exact rfl
      case k6 => exact rfl
      rotate_left
      k_whole
      k_steps
      unfold Stop
      rename IsRange _ _ _ _ _ _ _ _ => hR
      rename Fr _ _ _ _ => F7
      rename News _ _ _ _ => N7
      replace N7 := newsSub N7 (b := nx₆) (fun _ h => List.mem_append_left _ h)
      refine iter_R (n := 3) (fun i mm nx => ∃ S', Gp w wi kw feed cells vs n1 n2 S' t nx ∧ S'.inner = S₆.inner ∧ H3 kw wi feed mm ∧ mm (Str.ofString "one") = some (.int (S₁.inner.length : Nat) tr9)) rfl hR (by rfl) (by decide) F7 N7 ⟨S₆, gS, rfl, H3.put .m3 (by decide) (by decide) (by decide), by with_unfolding_all rfl⟩ ?turn3 ?done3
      case turn3 =>
        (try clear hR); (try clear F6); (try clear N6); (try clear F7); (try clear N7); (try clear F₅); (try clear N₅); (try clear gS)
        intro I i mm nx t' it h₃ tk₃ hit hin hJ hIx F₃ N₃
        obtain ⟨S₇, gS, hin7, hm, hone⟩ := hJ
        replace hm := hm.put (x := Str.ofString "turn") (v := some (.int (0 + (i : Int)) t')) (by decide) (by decide) (by decide)
        rw [← hm.eq] at F₃
        k_steps
        unfold Stop
        have hlen6 : S₆.inner.length = S₁.inner.length + 2 := by rw [hin6, List.length_set, hlen5]
        k_dflt (refine' Gp.coll (ex := [(I, it)]) (by rw [hin7]; omega) gS B F₃ X N₃ T rfl sub_swap (apart_I hIx) ?_)
        (try clear F₃); (try clear N₃); (try clear gS); (try clear hIx)
        intro S₉ nx₉ h₉ tk₉ hin9 gS F₅ N₅ hIx
        k_steps
        unfold Stop
        rename Fr _ _ _ _ => F₅
        rename News _ _ _ _ => N₅
        refine UnrEnd.intro F₅ N₅ nx₉ (fun p hp => sub_swap (a := [(I, it)]) p hp) (off_I hIx) ⟨S₉, gS, hin9.trans hin7, .m3, by with_unfolding_all exact hone⟩
      case done3 =>
        (try clear hR); (try clear F6); (try clear N6); (try clear F7); (try clear N7); (try clear F₅); (try clear N₅); (try clear gS)
        intro mm nx h₃ tk₃ hJ F₃ N₃
        obtain ⟨S₇, gS, hin7, hm, hone⟩ := hJ
        have hmm : (fun y => if y = Str.ofString "one" then some (Value.int (S₁.inner.length : Nat) tr9) else M3 kw wi feed mm y) = mm := by
          rw [hm.eq]
          funext y
          by_cases h0 : y = Str.ofString "one"
          · subst h0; with_unfolding_all exact hone.symm
          · simp only [h0, if_false]
        rw [← hmm] at F₃
        replace N₃ := newsSub N₃ (b := nx ++ []) (by simp only [List.append_nil]; exact fun _ h => h)
        have hIx : Apart nx [] := fun _ _ _ h => nomatch h
        have hlen7 : S₇.inner.length = S₁.inner.length + 2 := by rw [hin7, hin6, List.length_set, hlen5]
        k_steps
        unfold Stop
        rename Fr _ _ _ _ => F₅
        rename News _ _ _ _ => N₅
        k_dflt (refine' Gp.kept (ex := []) (by omega) (.inl rfl) (by omega) gS B F₅ X N₅ T rfl (fun _ h => h) hIx ?_)
        (try clear F₅); (try clear N₅); (try clear gS); (try clear hIx)
        intro S₈ nx₈ h₈ tk₈ hin8 gS F₅ N₅ hIx
        k_steps
        unfold Stop
        rename Fr _ _ _ _ => F₅
        rename News _ _ _ _ => N₅
        k_dflt (refine' Gp.coll (ex := []) (by rw [hin8]; omega) gS B F₅ X N₅ T rfl (fun _ h => h) hIx ?_)
        (try clear F₅); (try clear N₅); (try clear gS); (try clear hIx)
        intro S₉ nx₉ h₉ tk₉ hin9 gS F₅ N₅ hIx
        have hk9 : S₉.inner[S₁.inner.length]? = some (((S₁.inner.length : Nat) : Int) + 1) := by
          rw [hin9, hin8, hin7, hin6, Int.toNat_natCast, List.getElem?_set_self (by omega), hlen4]
          rfl
        obtain ⟨x, mk, tmk, a2, d2, pre, hx, hpre, hfin⟩ := gS.fin S₁.inner.length (by rw [hin9, hin8]; omega) hk9
        replace N₅ := newsSub N₅ (fun p hp => List.mem_append_left _ (hfin p hp))
        k_steps
        unfold Stop
        k_dflt (refine' Gp.things gS N₅ (fun _ h => .tail _ (.tail _ (.tail _ (.tail _ (.tail _ h))))) ?_)
        k_steps
        unfold Stop
        k_dflt (refine' Gp.things gS N₅ (fun _ h => .tail _ (.tail _ (.tail _ (.tail _ (.tail _ h))))) ?_)
        k_steps
        unfold Stop
        rw [hpre] at N₅
        k_dflt (refine kba_turn (value' := PySem.Expr.Name (PySem.Str.ofString "_") ⟨0, 0, 0, 0⟩) (fun _ => rfl) ?_)
        k_dflt (refine' last_L N₅ (.head _) ?_)
        k_steps
        rename Fr _ _ _ _ => F₅
        have XX := Frag.In.keeps X F₅.keep
        have hC0 := XX 152 (excClassObj _ _ 152 _ _ [.ref 96, .type "object"] _ _ _ _ _ _ _ _ _ _ _ _) (by k_is)
        have hl0 : findIn (hd.heap_39 w.params) (.ref 152) "__eq__" = some (some (.builtin "object.__eq__")) := by first | k_is | kernel_rfl
        k_dflt (refine' eq_same_X (C := 152) (o := instObj 152 d2) ?hx rfl hC0 ?hob (looks_findIn XX hl0) ?hu ?_)
        case hx => exact (N₅ _ (.tail _ (.tail _ (.tail _ (.tail _ (.head _)))))).1
        case hob => decide
        case hu => units_room
        exact hret _ _ _ _ F₅ N₅
theorem fr_m3 {h₀ h : Heap} {L kw wi feed : Addr} {m : Str → Option Value} (F : Fr h₀ L h m) (a : m (Str.ofString "know") = some (.ref kw)) (b : m (Str.ofString "world") = some (.ref wi)) (c : m (Str.ofString "feed") = some (.ref feed)) : Fr h₀ L h (M3 kw wi feed m) := by
  rw [H3.eq ⟨a, b, c⟩]; exact F
/-- how the law ends, said at its beginning -/
theorem wp_fin {prog : Program} {w : World} {A : Around} {t : Sem Flow} {Q : Flow → Shared → Prop} {E : Value → Shared → Prop} {s : Shared} {h₀ h : Heap} {L : Addr} {m : Str → Option Value} (_F : Fr h₀ L h m)
    (fin : ∀ h' tk' m' nw, Fr h₀ L h' m' → News h₀ L h' nw → Q (.ret (.bool true)) { s with heap := h', toks := tk' })
    (k : (∀ h' tk' m' nw, Fr h₀ L h' m' → News h₀ L h' nw → Q (.ret (.bool true)) { s with heap := h', toks := tk' }) → wpAny (model prog w) A t Q E s) : wpAny (model prog w) A t Q E s := k fin
theorem neAllLt {d : Nat} : ∀ {l : Led}, (∀ p ∈ l, @LT.lt Nat _ p.1 d) → NeAll d l
  | [], _ => trivial
  | _ :: _, h => ⟨NE.gt (h _ (.head _)), neAllLt fun q hq => h q (.tail _ hq)⟩
theorem allLt2 {d : Nat} {q r : Addr × Obj} (h : ∀ p ∈ [q, r], @LT.lt Nat _ p.1 d) : @LT.lt Nat _ q.1 d ∧ @LT.lt Nat _ r.1 d := ⟨h _ (.head _), h _ (.tail _ (.head _))⟩
local macro_rules | `(tactic| k_lt $h:ident) => `(tactic| ((try (have hl2 := allLt2 $h; dsimp only at hl2)); replace $h:ident := neAllLt $h; refine hideG fun gP gK => ?_; simp only [NeAll, and_true] at $h:ident; k_dflt (repeat (rename _ ∧ _ => hc; rcases hc with ⟨_, _⟩)); refine gK ?_; clear gK gP))
theorem holds1 : PySem.Challenge.rw_rh0226_01.Holds := hd (by
  k_with_none
  k_with "execs cons" => (k_here; dsimp only; refine genTok ?_; intro tkG)
  k_with "exec Assign" => (k_here; (with_reducible show wpAny _ _ (exec (Stmt.Assign [Expr.Name "know" _] _ _) _) _ _ _); refine stop_ ?_)
  k_with "execs nil" => (k_here; refine stop_ ?_)
  k_with "newTuple" => (k_here; refine stop_ ?_)
  k_with "storeName" => (k_here; refine stop_ ?_)
  k_go0
  all_goals try k_fold
  rename Fr _ _ _ _ => F00
  refine wp_fin F00 ?fin ?_
  case fin =>
    intro h' tk' m' nw F' N'
    k_steps
  intro hfin
  k_steps
  rename News _ _ _ _ => N0
  have N1 := newsSub N0 (sub_cons (.tail _ (.head _)) (sub_cons (.tail _ (.tail _ (.head _))) (sub_cons (.tail _ (.tail _ (.tail _ (.tail _ (.tail _ (.tail _ (.tail _ (.tail _ (.tail _ (.tail _ (.tail _ (.tail _ (.tail _ (.head _)))))))))))))) (sub_cons (.tail _ (.tail _ (.tail _ (.tail _ (.tail _ (.tail _ (.tail _ (.tail _ (.tail _ (.tail _ (.tail _ (.tail _ (.tail _ (.tail _ (.head _))))))))))))))) (sub_cons (.tail _ (.tail _ (.tail _ (.tail _ (.tail _ (.tail _ (.tail _ (.tail _ (.tail _ (.tail _ (.tail _ (.tail _ (.tail _ (.tail _ (.tail _ (.head _)))))))))))))))) (sub_cons (.tail _ (.tail _ (.tail _ (.tail _ (.tail _ (.tail _ (.tail _ (.tail _ (.tail _ (.tail _ (.tail _ (.tail _ (.tail _ (.tail _ (.tail _ (.tail _ (.head _))))))))))))))))) (sub_cons (.tail _ (.tail _ (.tail _ (.tail _ (.tail _ (.tail _ (.tail _ (.tail _ (.tail _ (.tail _ (.tail _ (.tail _ (.tail _ (.tail _ (.tail _ (.tail _ (.tail _ (.head _)))))))))))))))))) sub_nil)))))))
  clear N0
  unfold Stop
  refine wpAny_execs_nil ?_
  obtain ⟨ks, V, N2⟩ := fold_world N1
  clear N1
  dsimp only [qk]
  rename Fr _ _ _ _ => F0
  refine leaveK_ F0 N2 ?_
  intro kF kN
  clear N2
  try dsimp only [InitBack]
  refine ⟨rfl, ?_⟩
  repeat (with_reducible rename PyProof.V.FlatPairs _ _ _ => hc; clear hc)
  repeat (with_reducible rename CarriedAll _ _ => hc; clear hc)
  k_steps
  unfold Stop
  k_dflt (refine' kup_newTuple ?F ?N ?_ ?z; (case F => k_asm); (case N => k_asm); (case z => kmk_size))
  intro D' h' F' N' l1
  (try k_lt l1)
  k_steps
  unfold Stop
  k_dflt (refine' storeX_L ?F1 ?N1 ?_ ?a1 ?b1; (case F1 => k_asm); (case N1 => k_asm); (case a1 => rfl); (case b1 => rfl); k_whole)
  intro h' F' N'
  k_steps
  unfold Stop
  k_dflt (refine' storeX_L ?F2 ?N2 ?_ ?a2 ?b2; (case F2 => k_asm); (case N2 => k_asm); (case a2 => rfl); (case b2 => rfl); k_whole)
  intro h' F' N'
  k_steps
  unfold Stop
  k_dflt (refine' storeX_L ?F3 ?N3 ?_ ?a3 ?b3; (case F3 => k_asm); (case N3 => k_asm); (case a3 => rfl); (case b3 => rfl); k_whole)
  intro h' F' N'
  refine' Exists.elim (init_S (k1 := ?kk1) (k2 := ?kk2) (k3 := ?kk3) (ta := ?ta) (tb := ?tb) N' ?hnd ?l1 ?l2 ?l3 ?s1 ?s2 ?s3 ?e1 ?e2 ?e3) ?_
  case l1 => with_reducible assumption
  case l2 => with_reducible assumption
  case l3 => with_reducible assumption
  case s1 => assumption
  case s2 => assumption
  case s3 => assumption
  case e1 => exact rfl
  case e2 => with_unfolding_all rfl
  case e3 => with_unfolding_all rfl
  case hnd =>
    simp only [PairN, NeL, and_true]
    (repeat' refine And.intro ?_ ?_) <;> first | with_reducible assumption | (refine NE.symm ?_; with_reducible assumption) | exact NE.lt (by assumption) | exact NE.gt (by assumption) | exact NE.gt (Nat.lt_trans (by assumption) (by assumption))
  intro S hS
  obtain ⟨nx, g, N2, hi⟩ := hS
  rename World => ww
  have LT := @lawTail ww _ _ _ _ _ _ _ _ _ _ _ _ _ _ _ (by k_is)
  dsimp only [List.drop] at LT
  k_dflt (refine' LT ?B ?F ?X N2 ?T g hi ?hI ?hl ?hE ?hret; (case B => assumption); (case F => (refine fr_m3 F' ?_ ?_ ?_ <;> with_unfolding_all rfl)); (case X => assumption); (case T => assumption); (case hI => assumption); (case hl => (rw [List.length_take]; omega)); (case hE => passes_own))
  exact fun h' tk' m' nw F' N' => hfin h' tk' m' nw F' N')
end Mine
theorem PySem.Challenge.cw_rh0226_01_holds : PySem.Challenge.rw_rh0226_01.Holds := by
  exact Mine.holds1
