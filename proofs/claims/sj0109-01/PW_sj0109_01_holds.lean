import PyProof.Rows.All
import Wide.All
import OpenK.AllK
import Wide.FinOn
import PySem.Challenge.RW_sj0109_01
set_option Elab.async false
set_option maxRecDepth 100000
set_option linter.all false
section
local macro_rules | `(tactic| walk_at $s:str) => `(tactic| k_extra $s)
local macro_rules | `(tactic| k_lt $h:ident) => `(tactic| (replace $h := PySem.W.allLt_of $h; simp only [PySem.W.AllLt, and_true] at $h:ident; (repeat (have := And.left $h; replace $h := And.right $h))))
local macro_rules | `(tactic| k_ne) => `(tactic| (refine PySem.W.neN ?_; (try dsimp only); first | (with_reducible first | (refine Nat.ne_of_lt ?_; assumption) | (refine Nat.ne_of_gt ?_; assumption) | assumption | (refine Ne.symm ?_; assumption)) | walk_at "LTF" | (refine Ne.symm ?_; walk_at "LTF") | omega))
local macro_rules | `(tactic| k_room) => `(tactic| ktr_room)
local macro_rules | `(tactic| k_units) => `(tactic| ktr_units)
section
open PySem PySem.W PyProof PyProof.Rows PySem.Spec PySem.Calls
set_option Elab.async false
set_option maxRecDepth 100000
set_option maxHeartbeats 8000000
namespace Mine
theorem no_int_getitem : typeLookup (.type "int") (Str.ofString "__getitem__") = pure none := by rw [typeLookup_type, builtinLookup_eq_fast]; kernel_rfl
theorem sub_int {prog : Program} {w : World} {A : Around} {E : Value → Shared → Prop} {s : Shared} {v : PySem.Expr} {lo hi : Option PySem.Expr} {p : Pos} {n : Int} {t : Tok} {i : Value} {Q : Value → Shared → Prop} (hh : A.handled = none)
    (h : ∀ h' tk e, Heap.NewExc s.heap h' e "TypeError" → E (.ref e) { s with heap := h', toks := tk }) :
    wpAny (model prog w) A (subscriptTail v (PySem.Expr.Slice lo hi none p) (.int n t) i) Q E s := by
  have hT : s.TypeIs (.int n t) "int" := rfl
  unfold subscriptTail
  refine wpAny_bind ?_
  rw [getitemInPython_of_ne (by intro e; cases e)]
  refine wpAny_bind (wpAny_specialOf hT no_int_getitem ?_)
  refine wpAny_pure ?_
  refine wpAny_bind ?_
  show wpAny _ _ (operate [i, .int n t] (getItem (.int n t) i)) _ _ _
  refine wpAny_operating ?_
  unfold getItem
  refine wpAny_holding ?_
  refine wpAny_bind ?_
  unfold sequenceKey
  refine wpAny_bind (wpAny_typeOf hT ?_)
  try dsimp only
  rw [if_pos (by decide)]
  refine wpAny_pure ?_
  refine wpAny_bind (wpAny_callSpecial?_none hT no_int_getitem ?_)
  try dsimp only
  refine wpAny_bind (wpAny_of_eq (a := false) (by first | rfl | with_unfolding_all rfl) ?_)
  try dsimp only
  rw [if_neg (by decide)]
  refine wpAny_bind (wpAny_typeNameOf_int ?_)
  exact wpAny_raiseTypeError hh h
theorem leave_C {M : Model} {A : Around} {c : ClaimW} {cl : Str → Option Addr} {args : List WData} {s₁ s' : Shared} {name : Str} {scope : Scope} {L a e : Addr} {cd : Value} {m : Str → Option Value} {h h₀ : Heap} {cls : String} (hfr : A.frames = some []) (F : Fr s₁.heap L h m)
    (hx : Heap.NewExc h s'.heap e cls) (hg : s'.gens = #[]) (hr : c.raises args (.builtin cls) = true) (hos : s'.os = s₁.os := by rfl) (hkf : scope.kind = .function := by rfl) :
    wpAny M (A.deeper (envOfC name scope L a cd)) (leaving (envOfC name scope L a cd) (.ref e)) (fun _ s'' => GoodW c cl (ExcName.means h₀) args s₁ (.error (.ref e)) s'') (fun e' s'' => GoodW c cl (ExcName.means h₀) args s₁ (.error e') s'') s' := by
  refine wpAny_leaves_new (base := s₁.heap) (outer := []) (Around.frames_deeper hfr) rfl F.keep ?_ hx fun h' hfl => goodW_flying hfl hg hr hos
  refine Heap.FunFrames.cons (L := L) (m := m) ?_ rfl F.ns ?_ ?_
  · show scope.kind ≠ .module
    rw [hkf]; decide
  · exact Heap.get?_none_of_le F.above
  · trivial
theorem pre.tw590388290315067818 : True := trivial
theorem pre.tw2355572698660529837 : True := trivial
theorem pre.tw9945703327212449547 : True := trivial
theorem pre.tw3094614900183604011 : True := trivial
theorem pre.tw3288574845414960474 : True := trivial
theorem pre.tw10868531870378937865 : True := trivial
theorem pre.tw12041363069365716544 : True := trivial
theorem pre.tw6368841435034112893 : True := trivial
theorem pre.tw1642914733956554538 : True := trivial
theorem pre.tw15693231618869550497 : True := trivial
theorem pre.tw15416329323232597108 : True := trivial
theorem pre.tw4067389917850719585 : True := trivial
theorem pre.tw6244152289164925097 : True := trivial
theorem pre.tw2793876952464144092 : True := trivial
theorem pre.tw17224984220818489609 : True := trivial
theorem pre.tw12309417411607123642 : True := trivial
theorem pre.tw17028943642903203401 : True := trivial
theorem pre.tw18233255370621244900 : True := trivial
theorem pre.tw15130635324320710267 : True := trivial
theorem pre.tw11480471941931998799 : True := trivial
theorem pre.tw6767112457854269605 : True := trivial
theorem pre.tw11967863500246565877 : True := trivial
theorem pre.tw8646183201884414562 : True := trivial
theorem pre.tw17844419999514078010 : True := trivial
theorem pre.tw3075770761106440465 : True := trivial
theorem pre.tw1083846401382969032 : True := trivial
theorem pre.tw3653203284003021278 : True := trivial
theorem pre.tw6598987100012212614 : True := trivial
theorem pre.tw12465533948053986477 : True := trivial
theorem pre.tw11600251252059698432 : True := trivial
theorem pre.tw1961266365660868435 : True := trivial
theorem pre.tw6437931551330290438 : True := trivial
theorem pre.tw13702654961898353498 : True := trivial
theorem pre.tw11422953727881016366 : True := trivial
theorem pre.tw17813032836175352512 : True := trivial
theorem pre.tw3056967183029245664 : True := trivial
theorem pre.tw18236615629503518134 : True := trivial
theorem pre.tw4866971608788673576 : True := trivial
theorem pre.tw8807187873865674685 : True := trivial
theorem pre.tw12601736412296754624 : True := trivial
theorem pre.tw4936351757903562790 : True := trivial
theorem pre.tw17951621792752003255 : True := trivial
theorem pre.tw15233245896131659966 : True := trivial
theorem pre.tw2494791040518364336 : True := trivial
theorem pre.tw1847581664246446794 : True := trivial
theorem pre.tw4592789736104886690 : True := trivial
theorem pre.tw578446559104950318 : True := trivial
theorem pre.tw9552730113335097103 : True := trivial
theorem pre.tw11632232044515301145 : True := trivial
theorem pre.tw2204125747762997160 : True := trivial
theorem pre.tw13924473152081393076 : True := trivial
theorem pre.tw9571515539528028750 : True := trivial
theorem pre.tw16268650808249262707 : True := trivial
theorem pre.tw4084086026405070310 : True := trivial
theorem pre.tw3539277104568050316 : True := trivial
theorem pre.tw6585939558152295258 : True := trivial
theorem pre.tw3142542386609302197 : True := trivial
theorem pre.tw6027166026388233240 : True := trivial
theorem pre.tw13676013984246606415 : True := trivial
theorem pre.tw16058929423575460821 : True := trivial
theorem pre.tw5648158496542976163 : True := trivial
theorem pre.tw11383056963669434997 : True := trivial
theorem pre.tw10251759765297449335 : True := trivial
theorem pre.tw7569232922502155860 : True := trivial
theorem pre.tw17680803279675618773 : True := trivial
theorem pre.tw6260126215559185383 : True := trivial
theorem pre.tw546099227143320219 : True := trivial
theorem pre.tw698346005061455353 : True := trivial
theorem pre.tw12701294055307798758 : True := trivial
theorem pre.tw833301866567259626 : True := trivial
theorem pre.tw14604634542777377977 : True := trivial
theorem pre.tw5974860125168666142 : True := trivial
theorem pre.tw17434239335780912936 : True := trivial
theorem pre.tw2842862063813979719 : True := trivial
theorem pre.tw15217727220281956571 : True := trivial
theorem pre.tw13207373630104666366 : True := trivial
theorem pre.tw8930836413682506088 : True := trivial
theorem pre.tw6926492576228361084 : True := trivial
theorem pre.tw1047120459358279703 : True := trivial
theorem pre.tw17373973320644317417 : True := trivial
theorem pre.tw15042315596094944778 : True := trivial
theorem pre.tw9269883197500966196 : True := trivial
theorem pre.tw7964398728579978746 : True := trivial
theorem pre.tw7564766255729297416 : True := trivial
theorem pre.tw17171853630340306582 : True := trivial
theorem pre.tw1220156853476297361 : True := trivial
theorem pre.tw5532335634301144135 : True := trivial
theorem pre.tw5616357354536732607 : True := trivial
theorem pre.tw2256743641975187207 : True := trivial
theorem pre.tw2924357142288256476 : True := trivial
theorem pre.tw899124743068861042 : True := trivial
theorem pre.tw963679378083677624 : True := trivial
theorem pre.tw17070133332105845622 : True := trivial
theorem pre.tw8138631344701588614 : True := trivial
theorem pre.tw14114672765552503122 : True := trivial
theorem pre.tw16187767858317590155 : True := trivial
theorem pre.tw2749649739559614557 : True := trivial
theorem pre.tw17670664521834963977 : True := trivial
theorem pre.tw10467903544787568591 : True := trivial
theorem pre.tw4886116117891900527 : True := trivial
theorem pre.tw2834345416658533467 : True := trivial
theorem pre.tw4076518906421193238 : True := trivial
theorem pre.tw6737512137890597438 : True := trivial
theorem pre.tw2901822031365257273 : True := trivial
theorem pre.tw14504531411983417640 : True := trivial
theorem pre.tw15489355944739424747 : True := trivial
theorem pre.tw7190905415377987725 : True := trivial
theorem pre.tw1957200725488321114 : True := trivial
theorem pre.tw13155615532978356968 : True := trivial
theorem pre.tw246745258367748990 : True := trivial
theorem pre.tw14628187420673343983 : True := trivial
theorem pre.tw4286845863238312128 : True := trivial
theorem pre.tw5559670671026103597 : True := trivial
theorem pre.tw4189212242694403473 : True := trivial
theorem pre.tw13048787070281555549 : True := trivial
theorem pre.tw8220757499984453353 : True := trivial
theorem pre.tw17779947637784298742 : True := trivial
theorem pre.tw9755709050763076478 : True := trivial
theorem pre.tw18151825547678234113 : True := trivial
theorem pre.tw15123789955226152525 : True := trivial
theorem pre.tw9238746042885938319 : True := trivial
theorem pre.tw12455990067847257688 : True := trivial
theorem pre.tw6492504938478613368 : True := trivial
theorem pre.tw10125758760863536837 : True := trivial
theorem pre.tw8125289683539537955 : True := trivial
theorem pre.tw12444740210674830803 : True := trivial
theorem pre.tw3583441638673829862 : True := trivial
theorem pre.tw15384540385098350899 : True := trivial
theorem pre.tw13344253833810582256 : True := trivial
theorem pre.tw348168221346353151 : True := trivial
theorem pre.tw13503923098360568469 : True := trivial
abbrev r0 : OpenRow where
  prog := PySem.Challenge.pw_sj0109_01
  name := Str.ofString "law"
  records := []
  args := [.int]
  returns := .bool
  pre := .lit (.bool true)
  post := .lit (.bool true)
  raises := [(.builtin "TypeError", .lit (.bool true))]
  mutates := []
  within := []
  unshared := true
  same := none
  under := ⟨true, true, true⟩
  after := ⟨true, true, true⟩
  apart := false
  loose := []
  makers := []
  pinned := true
  writes := false
  keeps := []
local macro_rules | `(tactic| walk_at "subscriptTail Name Slice int ref") => `(tactic| (k_here; (refine sub_int ?k1 ?_; (case k1 => exact rfl); intro h9 tk9 e9 hx9)))
set_option Elab.async true in
theorem pre : r0.Holds := by
  w_on
  k_head
  (case hw => w_witness2)
  k_go0
  all_goals (try k_fold)
  repeat' ((fail_if_success (with_reducible show wpAny _ _ (leaving _ _) _ _ _)); (first | (k_unfold; (try dsimp only)) | walk1 | (dsimp only; walk1) | (leave1; walk_say "STEP leave1"; try dsimp only)))
  all_goals ((rename Heap.NewExc _ _ _ _ => hx9); (dsimp only at hx9); (refine' leave_C rfl ?zF hx9 ?zg ?zr); (case zF => ((rename Fr _ _ _ _ => F9); exact F9.push _)); (case zg => assumption); (case zr => first | rfl | decide))
end Mine
end
section
open PySem PySem.W PyProof.Rows
set_option maxRecDepth 100000
set_option maxHeartbeats 1000000
namespace Mine
open PySem.Spec PySem.Calls

abbrev KeepG (g h : Heap) : Prop := ∀ b o, g.get? b = some o → h.get? b = some o

theorem callR {prog : Program} {w : World} {A A₀ : Around} {s : Shared} {K : Frag} {L : Addr} {h₀ base : Heap} {m mg mb : Str → Option Value} {news : List (Addr × Obj)} {p : Program} {loose : List Str} {mean : ExcName → Option Value} {Q E : Value → Shared → Prop}
    {env : Env} {outer : List Env} {name qual : Str} {params : Arguments} {body : List Stmt} {scope : Scope} {dV kV doc pm cdv ct oc : Value} {an od : Option Addr} {osl : Array (Option Value)} {f : Addr} {vs : List Value} {binds : List (Str × Value)}
    (B : Below A₀ base outer h₀) (F : Fr h₀ L s.heap m) (X₀ : K.In h₀) (N : News h₀ L s.heap news) (T : Top p loose mean mg mb h₀) (hA : A.frames = some (env :: outer)) (hf : env.frame = some L) (hke : env.scope.kind = .function)
    (ho : K.lookup f = some ⟨oc, od, .func (fnOf name qual params body scope dV kV doc pm an cdv ct), osl⟩) (hcd : codeIn K cdv qual = true) (hroom : A.depth < recursionLimit)
    (hbind : BindsTo s (fnOf name qual params body scope dV kV doc pm an cdv ct) ⟨vs, []⟩ binds) (hloc : ∀ y ∈ binds, scope.names.lookup y.1 = some .local)
    (h : ∀ g L' h₁, g = hideAll s.heap (news.map (·.1)) → Fr h₀ L g m → Fr g L' h₁ (fun y => binds.reverse.lookup y) → News g L' h₁ news → Below A base (env :: outer) g → K.In g → Top p loose mean mg mb g →
      wpAny (model prog w) (A.deeper (envOf qual scope L' f cdv)) (execs body (envOf qual scope L' f cdv))
        (fun fl s' => LeaveK h₀ L m g (fun r s' => match r with | .ok (.ret v) => (KeepG g s'.heap → Q v s') | .ok _ => False | .error e => E e s') (match fl with | .ret v => v | _ => .none) s')
        (fun e s' => wpAny (model prog w) (A.deeper (envOf qual scope L' f cdv)) (leaving (envOf qual scope L' f cdv) e) (fun _ s'' => E e s'') (fun e' s'' => E e' s'') s')
        { s with heap := h₁, toks := s.toks + binds.length })
    (hco : scope.isCoroutine = false) (hgen : scope.isGenerator = false) (hk : scope.kind = .function)
    (hcell : ∀ x ∈ scope.names, x.2 ≠ .cell) : wpAny (model prog w) A (call (.ref f) vs) Q E s := by
  refine wpAny_call ?_
  obtain ⟨FG, BG, st, lv⟩ := groundX (R := fun r s' => match r with | .ok (.ret v) => (KeepG (hideAll s.heap (news.map (·.1))) s'.heap → Q v s') | .ok _ => False | .error e => E e s') B F N hA hf hke
  refine codeAny_call_def (fd := fnOf name qual params body scope dV kV doc pm an cdv ct) (body := body) (binds := binds) hroom ((X₀.keeps F.keep) _ _ ho) rfl (T.nolimit.keeps F.keep) (codeRec_of (X₀.keeps F.keep) hcd) rfl hbind hcell hloc (fun h₁ hns hk₁ => ?_) hco hgen hk
  refine wpAny_mono (h _ s.heap.objs.size h₁ rfl FG ⟨hns, fun b o e => hk₁ b o (of_hideAll _ e), Nat.le_of_eq (hideAll_size _ _)⟩
    (fun p hp => ⟨hk₁ _ _ (N p hp).1, Nat.ne_of_lt (Heap.lt_size (N p hp).1), hideAll_none _ (List.mem_map_of_mem hp)⟩) BG (X₀.keeps st) (T.keeps st)) (fun fl s' hl => ?_) fun _ _ y => y
  have h1 := lv _ _ hl
  obtain ⟨L', m', news', F', N', _⟩ := hl
  exact h1 F'.keep

theorem callRC {prog : Program} {w : World} {A A₀ : Around} {s : Shared} {K : Frag} {L : Addr} {h₀ base : Heap} {m mg mb : Str → Option Value} {news : List (Addr × Obj)} {p : Program} {loose : List Str} {mean : ExcName → Option Value} {Q E : Value → Shared → Prop}
    {env : Env} {outer : List Env} {name qual : Str} {params : Arguments} {body : List Stmt} {scope : Scope} {dV kV doc pm cdv ct oc : Value} {an od : Option Addr} {osl : Array (Option Value)} {f : Addr} {vs : List Value} {binds : List (Str × Value)}
    (B : Below A₀ base outer h₀) (F : Fr h₀ L s.heap m) (X₀ : K.In h₀) (N : News h₀ L s.heap news) (T : Top p loose mean mg mb h₀) (hA : A.frames = some (env :: outer)) (hf : env.frame = some L) (hke : env.scope.kind = .function)
    (ho : K.lookup f = some ⟨oc, od, .func (fnOf name qual params body scope dV kV doc pm an cdv ct), osl⟩) (hcd : codeIn K cdv qual = true) (hroom : A.depth < recursionLimit)
    (hbind : BindsTo s (fnOf name qual params body scope dV kV doc pm an cdv ct) ⟨vs, []⟩ binds) (hkind : (binds.all fun y => scope.names.lookup y.1 == some .local || scope.names.lookup y.1 == some .cell) = true)
    (hnd : ((cellsFrom 0 scope.names []).map (·.1)).Nodup)
    (h : ∀ g L' h₁ tk cells, g = hideAll s.heap (news.map (·.1)) → Fr h₀ L g m → Fr g L' h₁ (bindL (envOfC qual scope L' f cdv).kindOf binds fun _ => none) → News g L' h₁ (cells ++ news) →
      CellsAre (bindC (envOfC qual scope L' f cdv).kindOf binds fun _ => none) (cellsFrom (L' + 1) scope.names []) cells → Below A base (env :: outer) g → K.In g → Top p loose mean mg mb g → (∀ p ∈ news, p.1 < L') →
      wpAny (model prog w) (A.deeper (envOfC qual scope L' f cdv)) (execs body (envOfC qual scope L' f cdv))
        (fun fl s' => LeaveK h₀ L m g (fun r s' => match r with | .ok (.ret v) => (KeepG g s'.heap → Q v s') | .ok _ => False | .error e => E e s') (match fl with | .ret v => v | _ => .none) s')
        (fun e s' => wpAny (model prog w) (A.deeper (envOfC qual scope L' f cdv)) (leaving (envOfC qual scope L' f cdv) e) (fun _ s'' => E e s'') (fun e' s'' => E e' s'') s')
        { s with heap := h₁, toks := tk })
    (hco : scope.isCoroutine = false) (hgen : scope.isGenerator = false) (hk : scope.kind = .function) : wpAny (model prog w) A (call (.ref f) vs) Q E s := by
  refine wpAny_call ?_
  obtain ⟨FG, BG, st, lv⟩ := groundX (R := fun r s' => match r with | .ok (.ret v) => (KeepG (hideAll s.heap (news.map (·.1))) s'.heap → Q v s') | .ok _ => False | .error e => E e s') B F N hA hf hke
  refine codeAny_call_function hroom ((X₀.keeps F.keep) _ _ ho) rfl hco hgen rfl (codeRec_of (X₀.keeps F.keep) hcd) (hbind _ _ _ _ ?_)
  refine wpAny_newFunctionEnv_cells hk ((kindsX hkind) _) fun env' he s' x => ?_
  subst he
  refine ⟨(T.nolimit.keeps F.keep).keeps x.toInCall.keep, codeAny_func ?_⟩
  obtain ⟨h₁, tk, rfl, _⟩ := x.done
  have hk₁ := x.toInCall.keep
  obtain ⟨cells, NC, Y⟩ := Cl.news (h₀ := s.heap) (Nat.le_refl _) fun n c hm => ⟨x.cell n c (lookup_of_mem_nodup (cellsFrom_names scope.names 0 (s.heap.objs.size + 1) [] [] rfl ▸ hnd) hm), x.above n c hm⟩
  refine wpAny_mono (h _ s.heap.objs.size h₁ tk cells rfl FG ⟨x.toInCall.ns, fun b o e => hk₁ b o (of_hideAll _ e), Nat.le_of_eq (hideAll_size _ _)⟩ (fun p hp => ?_) Y BG (X₀.keeps st) (T.keeps st) (fun p hp => Heap.lt_size (N p hp).1)) (fun fl s' hl => ?_) fun _ _ y => y
  · rcases List.mem_append.mp hp with hp | hp
    · refine ⟨(NC p hp).1, (NC p hp).2.1, ?_⟩
      cases q : (hideAll s.heap (news.map (·.1))).get? p.1 with
      | none => rfl
      | some o => have := of_hideAll _ q; rw [(NC p hp).2.2] at this; cases this
    · exact ⟨hk₁ _ _ (N p hp).1, Nat.ne_of_lt (Heap.lt_size (N p hp).1), hideAll_none _ (List.mem_map_of_mem hp)⟩
  · have h1 := lv _ _ hl
    obtain ⟨L', m', news', F', N', _⟩ := hl
    exact h1 F'.keep

theorem one_eq {b : Addr} {o o' : Obj} (h : [(b, o)] = [(b, o')]) : o = o' := (Prod.mk.inj (List.cons.inj h).1).2
theorem one_of {b : Addr} {o : Obj} : ∀ {l : List (Addr × Obj)}, l.map (·.1) = [(b, o)].map (·.1) → ∃ o', l = [(b, o')]
  | [], h => nomatch h
  | [(a, x)], h => ⟨x, by cases h; rfl⟩
  | _ :: _ :: _, h => nomatch h
/-- the contract of a def: called with vs where mt (objects that it changes) and ro (objects that it reads) stand, it hands back r, with mt' in mt's place, and new objects -/
def Ctr (w : World) (n : Nat) (f : Addr) (vs : List Value) (mt ro : List (Addr × Obj)) (Post : Value → List (Addr × Obj) → List (Addr × Obj) → Prop) : Prop :=
  ∀ (dp un : Nat) (gd : Option (List Code)) (cn : Str) (cs : Scope) (a : Addr) (ccd : Value) (cl : List (Str × Addr)) (outer : List Env) (A₀ : Around) (base h₀ : Heap) (L : Addr) (m : Str → Option Value) (s : Shared)
    (Q E : Value → Shared → Prop) (mean : ExcName → Option Value) (mg mb : Str → Option Value),
    Below A₀ base outer h₀ → Fr h₀ L s.heap m → (pre.heap_1_1 w.params).In h₀ → News h₀ L s.heap (mt ++ ro) → Top pre.view_1_2 (looseW pre.view_1_2 []) mean mg mb h₀ → cs.kind = .function → dp + n < recursionLimit → un + 8 * n < cLine →
    (∀ r mt' new h' tk', Post r mt' new → mt'.map (·.1) = mt.map (·.1) → (∀ b o, s.heap.get? b = some o → b ∉ mt.map (·.1) → h'.get? b = some o) → (∀ p ∈ mt', h'.get? p.1 = some p.2) → (∀ p ∈ new, h'.get? p.1 = some p.2 ∧ s.heap.get? p.1 = none) →
      Q r { s with heap := h', toks := tk' }) →
    wpAny (model PySem.Challenge.rw_sj0109_01.row.prog w) (ktrTop dp un gd cn cs L a ccd cl outer) (call (.ref f) vs) Q E s

section
variable {mt ro mt' new stuff : List (Addr × Obj)} {s : Shared} {g h' : Heap} {L' : Addr} {Post : Value → List (Addr × Obj) → List (Addr × Obj) → Prop} {Q : Value → Shared → Prop} {r : Value} {tk' : Nat}
theorem ctr_fin (hret : ∀ r mt' new h' tk', Post r mt' new → mt'.map (·.1) = mt.map (·.1) → (∀ b o, s.heap.get? b = some o → b ∉ mt.map (·.1) → h'.get? b = some o) → (∀ p ∈ mt', h'.get? p.1 = some p.2) → (∀ p ∈ new, h'.get? p.1 = some p.2 ∧ s.heap.get? p.1 = none) →
      Q r { s with heap := h', toks := tk' }) {h₀ : Heap} {L : Addr} (N0 : News h₀ L s.heap (mt ++ ro)) (hg : g = hideAll s.heap ((mt ++ ro).map (·.1))) (N : News g L' h' stuff) (hk : KeepG g h') (mt' new : List (Addr × Obj))
    (hm : mt'.map (·.1) = mt.map (·.1)) (sub : SubL (mt' ++ new ++ ro) stuff) (off : ∀ p ∈ new, ∀ q ∈ mt ++ ro, q.1 ≠ p.1) (P : Post r mt' new) : Q r { s with heap := h', toks := tk' } := by
  have sub' := SubL.mem sub
  refine hret r mt' new h' tk' P hm (fun b o e hb => ?_) (fun p hp => (N p (sub' p (List.mem_append_left _ (List.mem_append_left _ hp)))).1) (fun p hp => ?_)
  · by_cases hr : b ∈ ro.map (·.1)
    · obtain ⟨q, hq, rfl⟩ := List.mem_map.mp hr
      have e1 := (N0 q (List.mem_append_right _ hq)).1
      rw [e1] at e
      cases e
      exact (N q (sub' q (List.mem_append_right _ hq))).1
    · refine hk b o ?_
      rw [hg]
      refine hideAll_get _ e fun q => ?_
      rw [List.map_append] at q
      exact (List.mem_append.mp q).elim hb hr
  · have e := N p (sub' p (List.mem_append_left _ (List.mem_append_right _ hp)))
    refine ⟨e.1, ?_⟩
    cases q : s.heap.get? p.1 with
    | none => rfl
    | some o =>
      have := e.2.2
      rw [hg, hideAll_get _ q (fun z => by
        obtain ⟨y, hy, hz⟩ := List.mem_map.mp z
        exact off p hp y hy hz)] at this
      cases this
end

def OffNew (a : Addr) : List (Addr × Obj) → Prop
  | [] => True
  | p :: r => (@Ne Nat p.1 a) ∧ OffNew a r
def OffAll (news : List (Addr × Obj)) : List (Addr × Obj) → Prop
  | [] => True
  | p :: r => OffNew p.1 news ∧ OffAll news r
theorem offNew_of {a : Addr} : ∀ {news : List (Addr × Obj)}, (∀ q ∈ news, q.1 ≠ a) → OffNew a news
  | [], _ => trivial
  | _ :: _, h => ⟨h _ (.head _), offNew_of fun q hq => h q (.tail _ hq)⟩
theorem offAll_of {news : List (Addr × Obj)} : ∀ {new : List (Addr × Obj)}, (∀ p ∈ new, ∀ q ∈ news, q.1 ≠ p.1) → OffAll news new
  | [], _ => trivial
  | _ :: _, h => ⟨offNew_of (h _ (.head _)), offAll_of fun q hq => h q (.tail _ hq)⟩
section
variable {w : World} {n : Nat} {f : Addr} {vs : List Value} {mt ro news : List (Addr × Obj)} {Post : Value → List (Addr × Obj) → List (Addr × Obj) → Prop}
  {dp un : Nat} {gd : Option (List Code)} {cn : Str} {cs : Scope} {a : Addr} {ccd : Value} {cl : List (Str × Addr)} {outer : List Env} {A₀ : Around} {base h₀ : Heap} {L : Addr} {m : Str → Option Value} {s : Shared}
    {Q E : Value → Shared → Prop} {mean : ExcName → Option Value} {mg mb : Str → Option Value}
theorem ctr_pure (C : Ctr w n f vs [] ro Post) (B : Below A₀ base outer h₀) (F : Fr h₀ L s.heap m) (X : (pre.heap_1_1 w.params).In h₀) (N : News h₀ L s.heap news) (T : Top pre.view_1_2 (looseW pre.view_1_2 []) mean mg mb h₀) (hk : cs.kind = .function)
    (hd : dp + n < recursionLimit) (hu : un + 8 * n < cLine) (sub : SubL ro news)
    (ret : ∀ r new h' tk', Post r [] new → Fr h₀ L h' m → News h₀ L h' (new ++ news) → OffAll news new → Q r { s with heap := h', toks := tk' }) :
    wpAny (model PySem.Challenge.rw_sj0109_01.row.prog w) (ktrTop dp un gd cn cs L a ccd cl outer) (call (.ref f) vs) Q E s := by
  have sub' := SubL.mem sub
  refine C dp un gd cn cs a ccd cl outer A₀ base h₀ L m s Q E mean mg mb B F X (fun p hp => N p (sub' p hp)) T hk hd hu fun r mt' new h' tk' P hm kp h1 h2 => ?_
  have e : mt' = [] := by simpa using hm
  subst e
  have kp' : KeepG s.heap h' := fun b o e => kp b o e (by simp)
  obtain ⟨oL, es, ep, hL, hLd, hLk, hLf⟩ := F.ns
  refine ret r new h' tk' P ⟨⟨oL, es, ep, kp' _ _ hL, hLd, hLk, hLf⟩, fun b o e => kp' _ _ (F.keep b o e), F.above⟩ (fun p hp => ?_) (offAll_of fun p hp q hq e => ?_)
  · rcases List.mem_append.mp hp with hp | hp
    · refine ⟨(h2 p hp).1, fun e => ?_, ?_⟩
      · have := (h2 p hp).2; rw [e, hL] at this; cases this
      · cases q : h₀.get? p.1 with
        | none => rfl
        | some o => have := (h2 p hp).2; rw [F.keep _ _ q] at this; cases this
    · exact ⟨kp' _ _ (N p hp).1, (N p hp).2⟩
  · have := (h2 p hp).2; rw [← e, (N q hq).1] at this; cases this
theorem ctr_mut {b : Addr} {o : Obj} (C : Ctr w n f vs [(b, o)] ro Post) (B : Below A₀ base outer h₀) (F : Fr h₀ L s.heap m) (X : (pre.heap_1_1 w.params).In h₀) (N : News h₀ L s.heap news) (T : Top pre.view_1_2 (looseW pre.view_1_2 []) mean mg mb h₀) (hk : cs.kind = .function)
    (hd : dp + n < recursionLimit) (hu : un + 8 * n < cLine) (sub : SubL ((b, o) :: ro) news)
    (ret : ∀ r o' new h' tk', Post r [(b, o')] new → Fr h₀ L h' m → (∀ news', Upd b o o' news news' → News h₀ L h' (new ++ news')) → OffAll news new → Q r { s with heap := h', toks := tk' }) :
    wpAny (model PySem.Challenge.rw_sj0109_01.row.prog w) (ktrTop dp un gd cn cs L a ccd cl outer) (call (.ref f) vs) Q E s := by
  have sub' := SubL.mem sub
  refine C dp un gd cn cs a ccd cl outer A₀ base h₀ L m s Q E mean mg mb B F X (fun p hp => N p (sub' p hp)) T hk hd hu fun r mt' new h' tk' P hm kp h1 h2 => ?_
  obtain ⟨o', rfl⟩ := one_of hm
  have kp' : ∀ c ob, s.heap.get? c = some ob → c ≠ b → h'.get? c = some ob := fun c ob e hc => kp c ob e (by simpa using hc)
  have nb := N (b, o) (sub' _ (.head _))
  obtain ⟨oL, es, ep, hL, hLd, hLk, hLf⟩ := F.ns
  refine ret r o' new h' tk' P ⟨⟨oL, es, ep, kp' _ _ hL (Ne.symm nb.2.1), hLd, hLk, hLf⟩, fun c ob e => kp' _ _ (F.keep c ob e) (fun q => by rw [q] at e; have := nb.2.2; rw [e] at this; cases this), F.above⟩ (fun news' U p hp => ?_) (offAll_of fun p hp q hq e => ?_)
  · rcases List.mem_append.mp hp with hp | hp
    · refine ⟨(h2 p hp).1, fun e => ?_, ?_⟩
      · have := (h2 p hp).2; rw [e, hL] at this; cases this
      · cases q : h₀.get? p.1 with
        | none => rfl
        | some o => have := (h2 p hp).2; rw [F.keep _ _ q] at this; cases this
    · obtain ⟨pre, post, e1, e2, n1, n2⟩ := U.split
      subst e1 e2
      rcases List.mem_append.mp hp with hp | hp
      · have z := N p (List.mem_append_left _ hp)
        exact ⟨kp' _ _ z.1 (n1 p hp), z.2⟩
      · rcases List.mem_cons.mp hp with rfl | hp
        · exact ⟨h1 _ (.head _), nb.2⟩
        · have z := N p (List.mem_append_right _ (.tail _ hp))
          exact ⟨kp' _ _ z.1 (n2 p hp), z.2⟩
  · have := (h2 p hp).2; rw [← e, (N q hq).1] at this; cases this
end
end Mine
end
section
open PySem PySem.W PyProof.Rows
set_option maxRecDepth 100000
set_option maxHeartbeats 2000000
namespace Mine
open PySem.Spec PySem.Calls PyProof.Rows.LCg PyProof.Rows.LCt

def TupSrc (h₀ : Heap) (ax : Addr) (its : Array Value) (news : List (Addr × Obj)) : Prop := h₀.IsTuple ax its ∨ ∃ o, (ax, o) ∈ news ∧ o.cls = .type "tuple" ∧ ∃ n, o.data = .seq its n
theorem TupSrc.tup {h₀ h : Heap} {L ax : Addr} {its : Array Value} {news : List (Addr × Obj)} (x : TupSrc h₀ ax its news) (k : ∀ b o, h₀.get? b = some o → h.get? b = some o) (N : News h₀ L h news) : h.IsTuple ax its := by
  rcases x with ⟨o, e, r⟩ | ⟨o, hm, r⟩
  · exact ⟨o, k _ _ e, r⟩
  · exact ⟨o, (N _ hm).1, r⟩
theorem tup_of_K {K : Frag} {h : Heap} {ax : Addr} {lo : Obj} {its : Array Value} {n : Nat} (X : K.In h) (hk : K.lookup ax = some lo) (hc : lo.cls = .type "tuple") (hd : lo.data = .seq its n) : h.IsTuple ax its := ⟨lo, X _ _ hk, hc, n, hd⟩

section
variable {prog : Program} {w : World} {A : Around} {E : Value → Shared → Prop} {s : Shared} {h₀ : Heap} {L : Addr} {m : Str → Option Value} {env : Env}
theorem tup_st {ax I : Addr} {its : Array Value} : ∀ i (h h' : Heap) (o : Obj) (nw : List (Addr × Obj)), (h.IsTupleIter I ax i ∧ h.IsTuple ax its) → h.get? I = some o → h'.get? I = some o → (∀ b o, h₀.get? b = some o → h'.get? b = some o) → News h₀ L h' nw → TupSrc h₀ ax its nw → (h'.IsTupleIter I ax i ∧ h'.IsTuple ax its) :=
  fun i h h' o nw st e e' k N S => ⟨by obtain ⟨o', q, r⟩ := st.1; rw [e] at q; cases q; exact ⟨o, e', r⟩, S.tup k N⟩

def SrcTup (prog : Program) (w : World) (A : Around) (h₀ : Heap) (L : Addr) (m : Str → Option Value) (env : Env) (elt : Expr) (x : Str) (scope : Scope) (cl : List (Str × Addr)) (Fin : Shared → List Value → List (Addr × Obj) → Prop) (xv : Value) (s₁ : Shared) : Prop :=
  ∃ ax its news, xv = .ref ax ∧ A.handled = none ∧ Fr h₀ L s₁.heap m ∧ News h₀ L s₁.heap news ∧ TupSrc h₀ ax its news ∧ its.size ≤ sizeLine ∧
    ∀ s₂ : Shared, (∃ h, s₂ = { s₁ with heap := h }) → CompRest prog w A h₀ L m env elt x scope cl s₂ (TupSrc h₀ ax its) (fun i v => its[i]? = some v) (Fin s₂) its.size 0 [] news
theorem SrcTup.ledger {elt : Expr} {x : Str} {scope : Scope} {cl : List (Str × Addr)} {Fin : Shared → List Value → List (Addr × Obj) → Prop} {ax : Addr} {its : Array Value} {k : Nat} {news : List (Addr × Obj)} {s₁ : Shared}
    (hh : A.handled = none) (F : Fr h₀ L s₁.heap m) (N : News h₀ L s₁.heap news) (hm : (ax, ({ cls := .type "tuple", data := .seq its k } : Obj)) ∈ news) (hsz : its.size ≤ sizeLine)
    (h : ∀ g, CompRest prog w A h₀ L m env elt x scope cl { s₁ with heap := g } (TupSrc h₀ ax its) (fun i v => its[i]? = some v) (Fin { s₁ with heap := g }) its.size 0 [] news) :
    SrcTup prog w A h₀ L m env elt x scope cl Fin (.ref ax) s₁ := ⟨ax, its, news, rfl, hh, F, N, .inr ⟨_, hm, rfl, _, rfl⟩, hsz, fun _ ⟨g, e⟩ => e ▸ h g⟩
theorem SrcTup.base {K : Frag} {lo : Obj} {elt : Expr} {x : Str} {scope : Scope} {cl : List (Str × Addr)} {Fin : Shared → List Value → List (Addr × Obj) → Prop} {ax : Addr} {its : Array Value} {k : Nat} {news : List (Addr × Obj)} {s₁ : Shared}
    (hh : A.handled = none) (F : Fr h₀ L s₁.heap m) (N : News h₀ L s₁.heap news) (X : K.In h₀) (hk : K.lookup ax = some lo) (hc : lo.cls = .type "tuple") (hd : lo.data = .seq its k) (hsz : its.size ≤ sizeLine)
    (h : h₀.IsTuple ax its → ∀ g, CompRest prog w A h₀ L m env elt x scope cl { s₁ with heap := g } (TupSrc h₀ ax its) (fun i v => its[i]? = some v) (Fin { s₁ with heap := g }) its.size 0 [] news) :
    SrcTup prog w A h₀ L m env elt x scope cl Fin (.ref ax) s₁ := ⟨ax, its, news, rfl, hh, F, N, .inl (tup_of_K X hk hc hd), hsz, fun _ ⟨g, e⟩ => e ▸ h (tup_of_K X hk hc hd) g⟩

theorem ListComp_tup {elt iter : Expr} {x : Str} {px : Pos} {scope : Scope} {cl : List (Str × Addr)} {pos : Pos} {Q : Value → Shared → Prop} (F₀ : Fr h₀ L s.heap m)
    (hclos : closureFor scope env = pure cl) (hcell : ∀ y ∈ scope.names, y.2 ≠ .cell) (hkind : scope.kind = .function)
    (hnames : ∀ y ∈ scope.names, y.2 = .local → scope.names.lookup y.1 = some .local) (hx : scope.names.lookup x = some .local)
    (h : wpAny (model prog w) A (eval iter env) (SrcTup prog w A h₀ L m env elt x scope cl (fun s₂ => FinE h₀ L m s₂ Q)) E s)
    (hs : ∀ x, foldedSetIterable iter env x = pure x := by intro _; rfl) :
    wpAny (model prog w) A (eval (.ListComp elt [⟨.Name x px, iter, [], 0⟩] scope pos) env) Q E s := by
  rw [eval_ListComp]
  refine wpAny_comprehension_free (use := none) rfl hs hclos hkind hnames (wpAny_mono h (fun xv s₁ h₁ => ?_) fun _ _ e => e)
  obtain ⟨ax, its, news, rfl, hh, F, N, S, hsz, R⟩ := h₁
  have hl := S.tup F.keep N
  have hlt : ax < s₁.heap.objs.size := by obtain ⟨_, e, _⟩ := hl; exact Heap.lt_size e
  refine wpAny_pyIter_tuple hl ?_
  have up : ∀ b o, s₁.heap.get? b = some o → (s₁.heap.push { cls := .type "tuple_iterator", data := .fields #[.ref ax, .int 0 0] }).get? b = some o := fun b o e => Heap.get?_push_of_some _ e
  refine block_U (Walks.tuple hh s₁.heap.objs.size ax (Nat.ne_of_lt hlt) its) hsz (fun i h st => by obtain ⟨o, e, _⟩ := st.1; exact ⟨o, e⟩) tup_st hcell hkind hx ⟨⟨_, Heap.get?_push_size _ rfl, rfl, rfl⟩, hl.at fun o e => Heap.get?_push_of_some _ e⟩ (fun b hb => ?_)
      (F.keeps up) (N.grown up) (Nat.ne_of_lt F.ns.lt) (next_is_new F) (fun p hp => Nat.ne_of_lt (Heap.lt_size (N p hp).1)) S (R _ ⟨_, rfl⟩) ?_
  · show b < (s₁.heap.push _).objs.size
    rw [Heap.size_push]
    rcases List.mem_cons.mp hb with rfl | hb
    · exact Nat.lt_succ_self _
    · rw [List.mem_singleton.mp hb]; exact Nat.lt_succ_of_lt hlt
  · intro D C h tk m' ys news' F' N' o1 hn hC₀ hD₀ hCL hDL hCD offC fin
    refine ⟨m', hn, fun h'' hs'' => fin D h'' tk (F'.change hs'' hCL hC₀) (fun p hp => ?_) o1⟩
    refine ⟨hs''.extBut _ _ ?_ (N' p hp).1, (N' p hp).2⟩
    rcases List.mem_cons.mp hp with rfl | hp
    · exact Ne.symm hCD
    · exact offC p hp

def SrcTupT (prog : Program) (w : World) (A : Around) (h₀ : Heap) (L : Addr) (m : Str → Option Value) (env : Env) (ct elt : Expr) (x : Str) (scope : Scope) (cl : List (Str × Addr)) (Fin : Shared → List Value → List (Addr × Obj) → Prop) (xv : Value) (s₁ : Shared) : Prop :=
  ∃ ax its news, xv = .ref ax ∧ A.handled = none ∧ Fr h₀ L s₁.heap m ∧ News h₀ L s₁.heap news ∧ TupSrc h₀ ax its news ∧ its.size ≤ sizeLine ∧
    ∀ s₂ : Shared, (∃ h, s₂ = { s₁ with heap := h }) → CompRestT prog w A h₀ L m env ct elt x scope cl s₂ (TupSrc h₀ ax its) (fun i v => its[i]? = some v) (Fin s₂) its.size 0 [] news
theorem SrcTupT.ledger {ct elt : Expr} {x : Str} {scope : Scope} {cl : List (Str × Addr)} {Fin : Shared → List Value → List (Addr × Obj) → Prop} {ax : Addr} {its : Array Value} {k : Nat} {news : List (Addr × Obj)} {s₁ : Shared}
    (hh : A.handled = none) (F : Fr h₀ L s₁.heap m) (N : News h₀ L s₁.heap news) (hm : (ax, ({ cls := .type "tuple", data := .seq its k } : Obj)) ∈ news) (hsz : its.size ≤ sizeLine)
    (h : ∀ g, CompRestT prog w A h₀ L m env ct elt x scope cl { s₁ with heap := g } (TupSrc h₀ ax its) (fun i v => its[i]? = some v) (Fin { s₁ with heap := g }) its.size 0 [] news) :
    SrcTupT prog w A h₀ L m env ct elt x scope cl Fin (.ref ax) s₁ := ⟨ax, its, news, rfl, hh, F, N, .inr ⟨_, hm, rfl, _, rfl⟩, hsz, fun _ ⟨g, e⟩ => e ▸ h g⟩

theorem Assign_ListComp_tup {ct elt iter : Expr} {x y : Str} {px py : Pos} {scope : Scope} {cl : List (Str × Addr)} {pos spos : Pos} {Q : Flow → Shared → Prop} (F₀ : Fr h₀ L s.heap m) (hLe : env.locals = L)
    (hsw : swapsWith (.ListComp elt [⟨.Name x px, iter, [ct], 0⟩] scope pos) (some (.Name y py)) spos.line env = pure true)
    (hclos : closureFor scope env = pure cl) (hcell : ∀ z ∈ scope.names, z.2 ≠ .cell) (hkind : scope.kind = .function)
    (hnames : ∀ z ∈ scope.names, z.2 = .local → scope.names.lookup z.1 = some .local) (hx : scope.names.lookup x = some .local)
    (hy : env.kindOf y = some .local) (hp : (env.scope.kind == .class || (env.scope.kind == .module && env.locals != env.globals)) = false)
    (h : wpAny (model prog w) A (eval iter env) (SrcTupT prog w A h₀ L m env ct elt x scope cl (fun s₂ => FinA h₀ L m s₂ y Q)) E s)
    (hs : ∀ x, foldedSetIterable iter env x = pure x := by intro _; rfl) :
    wpAny (model prog w) A (exec (.Assign [.Name y py] (.ListComp elt [⟨.Name x px, iter, [ct], 0⟩] scope pos) spos) env) Q E s := by
  subst hLe
  rw [exec_Assign_Name_used _ _ _ _ hsw]
  refine wpAny_bind (wpAny_standAt (wpAny_bind ?_))
  show wpAny _ A (do let _ ← comprehension (.ListComp elt [⟨.Name x px, iter, [ct], 0⟩] scope pos) scope env _ (newList []) false (eval iter env) (some (assign (.Name y py) env))) _ _ s
  refine wpAny_bind (wpAny_mono (wpAny_comprehension_free (use := some (assign (.Name y py) env)) (Q := fun _ s' => Q .next s') rfl hs hclos hkind hnames
    (wpAny_mono h (fun xv s₁ h₁ => ?_) fun _ _ e => e)) (fun _ s' hq => wpAny_pure (wpAny_pure hq)) fun _ _ e => e)
  obtain ⟨ax, its, news, rfl, hh, F, N, S, hsz, R⟩ := h₁
  have hl := S.tup F.keep N
  have hlt : ax < s₁.heap.objs.size := by obtain ⟨_, e, _⟩ := hl; exact Heap.lt_size e
  refine wpAny_pyIter_tuple hl ?_
  have up : ∀ b o, s₁.heap.get? b = some o → (s₁.heap.push { cls := .type "tuple_iterator", data := .fields #[.ref ax, .int 0 0] }).get? b = some o := fun b o e => Heap.get?_push_of_some _ e
  refine block_T (Walks.tuple hh s₁.heap.objs.size ax (Nat.ne_of_lt hlt) its) hsz (fun i h st => by obtain ⟨o, e, _⟩ := st.1; exact ⟨o, e⟩) tup_st hcell hkind hx ⟨⟨_, Heap.get?_push_size _ rfl, rfl, rfl⟩, hl.at fun o e => Heap.get?_push_of_some _ e⟩ (fun b hb => ?_)
      (F.keeps up) (N.grown up) (Nat.ne_of_lt F.ns.lt) (next_is_new F) (fun p hp => Nat.ne_of_lt (Heap.lt_size (N p hp).1)) S (R _ ⟨_, rfl⟩) ?_
  · show b < (s₁.heap.push _).objs.size
    rw [Heap.size_push]
    rcases List.mem_cons.mp hb with rfl | hb
    · exact Nat.lt_succ_self _
    · rw [List.mem_singleton.mp hb]; exact Nat.lt_succ_of_lt hlt
  · intro D C h' tk m' ys news' F' N' o1 hn hC₀ hD₀ hCL hDL hCD offC fin
    show wpAny _ A (assign (.Name y py) env (.ref D)) _ _ _
    refine wpAny_assign_Name (wpAny_storeName_local hy F'.ns (fun h₂ hn₂ hs₂ => ?_) hp)
    have hL₀ : h₀.get? env.locals = none := Heap.get?_none_of_le F'.above
    have F₂ : Fr h₀ env.locals h₂ (fun z => if z = y then some (.ref D) else m z) := ⟨hn₂, fun b o e => hs₂.extBut b o (fun q => by rw [q, hL₀] at e; cases e) (F'.keep b o e), F'.above⟩
    refine ⟨m', hn.sameBut hs₂ hCL, fun h'' hs'' => fin D h'' _ (F₂.change hs'' hCL hC₀) (fun p hp => ?_) o1⟩
    have z : h₂.get? p.1 = some p.2 := hs₂.extBut _ _ (N' p hp).2.1 (N' p hp).1
    refine ⟨hs''.extBut _ _ ?_ z, (N' p hp).2⟩
    rcases List.mem_cons.mp hp with rfl | hp
    · exact Ne.symm hCD
    · exact offC p hp
end
end Mine
end
section
open PySem PySem.W PyProof.Rows
set_option maxRecDepth 100000
namespace Mine

/-- how long nothing may happen -/
def waitOf (own peer pw : Int) : Option Int :=
  if own > 0 then (if peer > 0 then some (max (min own peer) (3 * pw)) else some (max own (3 * pw))) else if peer > 0 then some (max peer (3 * pw)) else none
abbrev Ask := List (Str × Int × Tok)
def kv (l : Ask) : List (Str × Value) := l.map fun e => (e.1, Value.int e.2.1 e.2.2)
abbrev sI : Str := Str.ofString "initial"
abbrev sH : Str := Str.ofString "handshake"
abbrev sA : Str := Str.ofString "application"
def Keys7 (ks : List Str) : Prop := ks = [sI] ∨ ks = [sH] ∨ ks = [sA] ∨ ks = [sI, sH] ∨ ks = [sI, sA] ∨ ks = [sH, sA] ∨ ks = [sI, sH, sA]
structure AskOk (l : Ask) (now base : Int) : Prop where
  keys : Keys7 (l.map (·.1))
  lo : ∀ e ∈ l, now ≤ e.2.1
  hi : ∀ e ∈ l, 4 * (e.2.1 - now) ≤ 3 * base
def AskKv (ks : List (Str × Value)) (now base : Int) : Prop := ∃ l : Ask, ks = kv l ∧ AskOk l now base
theorem ask_lo {nw ba v : Int} (hb : 0 ≤ ba) (h0 : 0 ≤ v) : nw ≤ nw + (ba * v).fdiv 4 := by
  rw [Int.fdiv_eq_ediv_of_nonneg _ (by decide)]
  have := Int.mul_nonneg hb h0
  omega
theorem ask_hi {nw ba v : Int} (hb : 0 ≤ ba) (h0 : 0 ≤ v) (h4 : v < 4) : 4 * (nw + (ba * v).fdiv 4 - nw) ≤ 3 * ba := by
  rw [Int.fdiv_eq_ediv_of_nonneg _ (by decide)]
  have h : v = 0 ∨ v = 1 ∨ v = 2 ∨ v = 3 := by omega
  rcases h with rfl | rfl | rfl | rfl <;> omega
theorem mask_none {v : Int} (h0 : 0 ≤ v) (h7 : v < 7) (n0 : ¬ ((1 + v).fdiv (2 ^ Int.toNat 0)).fmod 2 = 1) (n1 : ¬ ((1 + v).fdiv (2 ^ Int.toNat 1)).fmod 2 = 1) (n2 : ¬ ((1 + v).fdiv (2 ^ Int.toNat 2)).fmod 2 = 1) : False := by
  have h : v = 0 ∨ v = 1 ∨ v = 2 ∨ v = 3 ∨ v = 4 ∨ v = 5 ∨ v = 6 := by omega
  rcases h with rfl | rfl | rfl | rfl | rfl | rfl | rfl <;> first | exact n0 (by decide) | exact n1 (by decide) | exact n2 (by decide)
theorem keys_len {l : Ask} (h : Keys7 (l.map (·.1))) : l.length ≤ 3 := by
  rcases h with h | h | h | h | h | h | h <;> (have := congrArg List.length h; simp at this; omega)
theorem keys_ne {l : Ask} (h : Keys7 (l.map (·.1))) : l ≠ [] := by
  rintro rfl
  rcases h with h | h | h | h | h | h | h <;> simp at h
def overAt (own peer pw si now : Int) : Bool := match waitOf own peer pw with
  | none => false
  | some v => decide (si + v ≤ now)
end Mine
end
section
open PySem PySem.W PyProof.Rows
set_option maxRecDepth 100000
set_option maxHeartbeats 1000000
namespace Mine
open PySem.Spec PySem.Calls PyProof.V
section
variable {prog : Program} {w : World} {A : Around} {E : Value → Shared → Prop} {s : Shared} {h₀ : Heap} {L d v D : Addr} {m : Str → Option Value} {news : List (Addr × Obj)} {Q : Value → Shared → Prop} {T : String} {r : Addr} {n : Nat} {P : Nat → Value → Prop} {OK : Heap → Prop}

theorem max_src (K : KdlSrc prog w T r d n P OK) (hh : A.handled = none) (F : Fr h₀ L s.heap m) (N : News h₀ L s.heap news) (hok : OK s.heap) (hn : 0 < n) (val : Nat → Int) (hval : ∀ (i : Nat) (v : Value), P i v → ∃ t : Tok, v = Value.int (val i) t)
    (h : ∀ (h' : Heap) (tk j : Nat) (t' : Tok), Fr h₀ L h' m → News h₀ L h' news → j < n → (∀ i, i < n → val i ≤ val j) → Q (.int (val j) t') { s with heap := h', toks := tk }) :
    wpAny (model prog w) A (call (.builtin "max") [.ref r]) Q E s := by
  obtain ⟨oI, St, hit, W, st⟩ := K.iter A.in1 s hh hok
  refine call_max_walk (hit _ _ ⟨s.heap.objs.size, _, _, n, P, _, _, rfl, W, st, fun b hb => ?_, hn, CmpOf.ints_gt val hval, fun v h' tk hv hk => ?_⟩)
  · show b < (s.heap.push oI).objs.size
    rw [size_push']
    rcases List.mem_cons.mp hb with e | hb
    · rw [e]; exact Nat.lt_succ_self _
    · rw [List.mem_singleton.mp hb]; exact Nat.lt_succ_of_lt (K.there _ hok).2
  · obtain ⟨t, rfl⟩ := hval _ v hv
    have hb := argBest_gt val (n - 1)
    have hk' : ∀ b o, s.heap.get? b = some o → h'.get? b = some o := fun b o e =>
      hk b o (fun hI => absurd (Heap.lt_size e) (by rw [List.mem_singleton.mp hI]; exact Nat.lt_irrefl _)) (Heap.get?_push_of_some _ e)
    exact h h' tk _ t (F.keeps hk') (fun p hp => ⟨hk' _ _ (N p hp).1, (N p hp).2⟩) (by omega) fun i hi => hb.2 i (by omega)
theorem min_src (K : KdlSrc prog w T r d n P OK) (hh : A.handled = none) (F : Fr h₀ L s.heap m) (N : News h₀ L s.heap news) (hok : OK s.heap) (hn : 0 < n) (val : Nat → Int) (hval : ∀ (i : Nat) (v : Value), P i v → ∃ t : Tok, v = Value.int (val i) t)
    (h : ∀ (h' : Heap) (tk j : Nat) (t' : Tok), Fr h₀ L h' m → News h₀ L h' news → j < n → (∀ i, i < n → val j ≤ val i) → Q (.int (val j) t') { s with heap := h', toks := tk }) :
    wpAny (model prog w) A (call (.builtin "min") [.ref r]) Q E s := by
  obtain ⟨oI, St, hit, W, st⟩ := K.iter A.in1 s hh hok
  refine call_min_walk (hit _ _ ⟨s.heap.objs.size, _, _, n, P, _, _, rfl, W, st, fun b hb => ?_, hn, CmpOf.ints_lt val hval, fun v h' tk hv hk => ?_⟩)
  · show b < (s.heap.push oI).objs.size
    rw [size_push']
    rcases List.mem_cons.mp hb with e | hb
    · rw [e]; exact Nat.lt_succ_self _
    · rw [List.mem_singleton.mp hb]; exact Nat.lt_succ_of_lt (K.there _ hok).2
  · obtain ⟨t, rfl⟩ := hval _ v hv
    have hb := argBest_lt val (n - 1)
    have hk' : ∀ b o, s.heap.get? b = some o → h'.get? b = some o := fun b o e =>
      hk b o (fun hI => absurd (Heap.lt_size e) (by rw [List.mem_singleton.mp hI]; exact Nat.lt_irrefl _)) (Heap.get?_push_of_some _ e)
    exact h h' tk _ t (F.keeps hk') (fun p hp => ⟨hk' _ _ (N p hp).1, (N p hp).2⟩) (by omega) fun i hi => hb.2 i (by omega)
end

/-- the greatest and the least time -/
def maxT : Ask → Int
  | [] => 0
  | [e] => e.2.1
  | e :: r => max e.2.1 (maxT r)
def minT : Ask → Int
  | [] => 0
  | [e] => e.2.1
  | e :: r => min e.2.1 (minT r)
theorem le_maxT : ∀ {l : Ask} {e}, e ∈ l → e.2.1 ≤ maxT l
  | [a], e, h => by rw [List.mem_singleton.mp h]; exact Int.le_refl _
  | a :: b :: r, e, h => by
    rcases List.mem_cons.mp h with rfl | h
    · exact Int.le_max_left ..
    · exact Int.le_trans (le_maxT h) (Int.le_max_right ..)
theorem maxT_mem : ∀ {l : Ask}, l ≠ [] → ∃ e ∈ l, e.2.1 = maxT l
  | [a], _ => ⟨a, .head _, rfl⟩
  | a :: b :: r, _ => by
    obtain ⟨e, he, h⟩ := maxT_mem (l := b :: r) (by simp)
    by_cases q : a.2.1 ≤ maxT (b :: r)
    · exact ⟨e, .tail _ he, h.trans (Int.max_eq_right q).symm⟩
    · exact ⟨a, .head _, (Int.max_eq_left (by omega)).symm⟩
theorem minT_le : ∀ {l : Ask} {e}, e ∈ l → minT l ≤ e.2.1
  | [a], e, h => by rw [List.mem_singleton.mp h]; exact Int.le_refl _
  | a :: b :: r, e, h => by
    rcases List.mem_cons.mp h with rfl | h
    · exact Int.min_le_left ..
    · exact Int.le_trans (Int.min_le_right ..) (minT_le h)
theorem minT_mem : ∀ {l : Ask}, l ≠ [] → ∃ e ∈ l, e.2.1 = minT l
  | [a], _ => ⟨a, .head _, rfl⟩
  | a :: b :: r, _ => by
    obtain ⟨e, he, h⟩ := minT_mem (l := b :: r) (by simp)
    by_cases q : a.2.1 ≤ minT (b :: r)
    · exact ⟨a, .head _, (Int.min_eq_left q).symm⟩
    · exact ⟨e, .tail _ he, h.trans (Int.min_eq_right (by omega)).symm⟩
theorem kv_length (l : Ask) : (kv l).length = l.length := by simp [kv]
theorem kv_get {l : Ask} {i : Nat} {k : Str} {v : Value} (h : (kv l)[i]? = some (k, v)) : ∃ t, v = .int ((l.getD i (k, 0, 0)).2.1) t := by
  unfold kv at h
  rw [List.getElem?_map] at h
  cases q : l[i]? with
  | none => rw [q] at h; cases h
  | some e => rw [q] at h; cases h; exact ⟨_, by rw [List.getD_eq_getElem?_getD, q]; rfl⟩
theorem getD_mem {l : Ask} {i : Nat} {x} (h : i < l.length) : l.getD i x ∈ l := by
  rw [List.getD_eq_getElem?_getD, List.getElem?_eq_getElem h]; exact List.getElem_mem h

section
variable {prog : Program} {w : World} {A : Around} {E : Value → Shared → Prop} {s : Shared} {h₀ : Heap} {L d v D : Addr} {m : Str → Option Value} {news : List (Addr × Obj)} {Q : Value → Shared → Prop} {o : Obj} {l : Ask}
theorem vals_max (hh : A.handled = none) (F : Fr h₀ L s.heap m) (N : News h₀ L s.heap news) (hv : (v, { cls := .type "dict_values", data := .fields #[.ref d] }) ∈ news) (hp : (d, o) ∈ news) (hd : o.IsDictOf (PySem.strKind prog w) (kv l)) (hne : l ≠ [])
    (h : ∀ (h' : Heap) (tk : Nat) (t' : Tok), Fr h₀ L h' m → News h₀ L h' news → Q (.int (maxT l) t') { s with heap := h', toks := tk }) :
    wpAny (model prog w) A (call (.builtin "max") [.ref v]) Q E s := by
  obtain ⟨ep, hat⟩ := (kda_dict N hp hd).dictAt
  refine max_src (kdl_values (knd := PySem.strKind prog w) (kvs := kv l) (ep := ep)) hh F N ⟨⟨_, (N _ hv).1, rfl, rfl⟩, hat⟩ (by rw [kv_length]; exact List.length_pos_iff.mpr hne) (fun i => (l.getD i (sI, 0, 0)).2.1) (fun i u hu => ?_) fun h' tk j t' F' N' hj hall => ?_
  · obtain ⟨k, hx⟩ := hu
    obtain ⟨t, e⟩ := kv_get hx
    have hi : i < l.length := by
      rw [← kv_length]
      exact (List.getElem?_eq_some_iff.mp hx).1
    refine ⟨t, e.trans ?_⟩
    simp [List.getD_eq_getElem?_getD, hi]
  · rw [kv_length] at hj hall
    have e : maxT l = (l.getD j (sI, 0, 0)).2.1 := by
      refine Int.le_antisymm ?_ (le_maxT (getD_mem hj))
      obtain ⟨x, hx, hm⟩ := maxT_mem hne
      obtain ⟨i, hi, rfl⟩ := List.getElem_of_mem hx
      have := hall i hi
      rw [← hm]
      simpa [List.getD_eq_getElem?_getD, hi] using this
    rw [← e]
    exact h h' tk t' F' N'
theorem vals_min (hh : A.handled = none) (F : Fr h₀ L s.heap m) (N : News h₀ L s.heap news) (hv : (v, { cls := .type "dict_values", data := .fields #[.ref d] }) ∈ news) (hp : (d, o) ∈ news) (hd : o.IsDictOf (PySem.strKind prog w) (kv l)) (hne : l ≠ [])
    (h : ∀ (h' : Heap) (tk : Nat) (t' : Tok), Fr h₀ L h' m → News h₀ L h' news → Q (.int (minT l) t') { s with heap := h', toks := tk }) :
    wpAny (model prog w) A (call (.builtin "min") [.ref v]) Q E s := by
  obtain ⟨ep, hat⟩ := (kda_dict N hp hd).dictAt
  refine min_src (kdl_values (knd := PySem.strKind prog w) (kvs := kv l) (ep := ep)) hh F N ⟨⟨_, (N _ hv).1, rfl, rfl⟩, hat⟩ (by rw [kv_length]; exact List.length_pos_iff.mpr hne) (fun i => (l.getD i (sI, 0, 0)).2.1) (fun i u hu => ?_) fun h' tk j t' F' N' hj hall => ?_
  · obtain ⟨k, hx⟩ := hu
    obtain ⟨t, e⟩ := kv_get hx
    have hi : i < l.length := by
      rw [← kv_length]
      exact (List.getElem?_eq_some_iff.mp hx).1
    refine ⟨t, e.trans ?_⟩
    simp [List.getD_eq_getElem?_getD, hi]
  · rw [kv_length] at hj hall
    have e : minT l = (l.getD j (sI, 0, 0)).2.1 := by
      refine Int.le_antisymm (minT_le (getD_mem hj)) ?_
      obtain ⟨x, hx, hm⟩ := minT_mem hne
      obtain ⟨i, hi, rfl⟩ := List.getElem_of_mem hx
      have := hall i hi
      rw [← hm]
      simpa [List.getD_eq_getElem?_getD, hi] using this
    rw [← e]
    exact h h' tk t' F' N'

theorem sort_abs {its : Array Value} {n : Nat} {ns : List Int} (F : Fr h₀ L s.heap m) (N : News h₀ L s.heap ((D, listOf its n) :: news)) (hoff : ∀ p ∈ news, p.1 ≠ D)
    (hi : IntsAre its.toList ns) (hne : its.size ≠ 0) (h64 : its.toList.length < 64)
    (h : ∀ (out : Array Value) ns' h', IntsAre out.toList ns' → ns'.Perm ns → ns'.Pairwise (· ≤ ·) → Fr h₀ L h' m → News h₀ L h' ((D, listOf out (n + 2)) :: news) → Q .none { s with heap := h' }) : wpAny (model prog w) A (call (.builtin "list.sort") [.ref D]) Q E s := by
  have z := N (D, listOf its n) (.head _)
  have ho : s.heap.get? D = some (seqObj "list" its.toList.toArray n) := by rw [Array.toArray_toList]; exact z.1
  refine wpAny_call_entry PyProof.Rows.slot_list_sort ⟨_, z.1, rfl⟩ PyProof.Rows.entry_list_sort (list_sort_tree (n := n) (vs := its.toList) ho hi h64 fun out ns' hI hp hP => ⟨.none, rfl, ?_⟩) (PyProof.Rows.args_list_sort _)
  have hlen : out.size ≠ 0 := by
    have h1 := hp.length_eq
    have h2 := hI.length
    have h3 := hi.length
    have h4 : out.toList.length = out.size := Array.length_toList
    have h5 : its.toList.length = its.size := Array.length_toList
    omega
  have N0 : News h₀ L s.heap ([] ++ (D, listOf its n) :: news) := N
  have F1 : Fr h₀ L (s.heap.update D (Obj.mapSeq fun _ => (#[] : Array Value))) m := F.change (Heap.SameBut.update ..) z.2.1 z.2.2
  have N1 := ki_turn (fun _ => (#[] : Array Value)) (its' := #[]) (n' := n + 1) N0 (by simp) hoff rfl (by rw [if_neg (by simpa using fun h => hne h.symm)])
  have N2 := News.grown N1 fun _ _ e => Heap.get?_push_of_some (seqObj "tuple" its.toList.toArray 0) e
  have N3 := News.grown N2 fun _ _ e => Heap.get?_push_of_some (seqObj "list" #[] 0) e
  have N4 := ki_turn (fun _ => out) (its' := out) (n' := n + 2) N3 (by simp) hoff rfl (by rw [if_neg (by simpa using hlen)])
  have F4 : Fr h₀ L ((((s.heap.update D (Obj.mapSeq fun _ => (#[] : Array Value))).push (seqObj "tuple" its.toList.toArray 0)).push (seqObj "list" #[] 0)).update D (Obj.mapSeq fun _ => out)) m :=
    ((F1.push (seqObj "tuple" its.toList.toArray 0)).push (seqObj "list" #[] 0)).change (Heap.SameBut.update ..) z.2.1 z.2.2
  exact h out ns' _ hI hp hP F4 N4

theorem kv_ints : ∀ (l : Ask), IntsAre ((kv l).map (·.2)) (l.map (·.2.1))
  | [] => .nil
  | e :: r => .cons _ _ (kv_ints r)
theorem vals_sorted (hh : A.handled = none) (F : Fr h₀ L s.heap m) (N : News h₀ L s.heap news) (hv : (v, { cls := .type "dict_values", data := .fields #[.ref d] }) ∈ news) (hp : (d, o) ∈ news) (hd : o.IsDictOf (PySem.strKind prog w) (kv l)) (hne : l ≠ []) (hl : l.length ≤ 3)
    (h : ∀ (B : Addr) (out : Array Value) ns' h' tk, IntsAre out.toList ns' → ns'.Perm (l.map (·.2.1)) → ns'.Pairwise (· ≤ ·) → Fr h₀ L h' m → News h₀ L h' ((B, listOf out 2) :: news) → (∀ q ∈ news, q.1 < B) → Q (.ref B) { s with heap := h', toks := tk }) :
    wpAny (model prog w) A (call (.builtin "sorted") [.ref v]) Q E s := by
  obtain ⟨ep, hat⟩ := (kda_dict N hp hd).dictAt
  refine kdu_sorted (kdl_values (knd := PySem.strKind prog w) (kvs := kv l) (ep := ep)) hh F N ⟨⟨_, (N _ hv).1, rfl, rfl⟩, hat⟩ (kdl_size (by rw [kv_length]; omega)) fun B h' tk vs F' N' l1 hlen hvs => ?_
  have e : vs = (kv l).map (·.2) := kdl_vals_eq vs hlen hvs
  subst e
  refine sort_abs (its := ((kv l).map (·.2)).toArray) (n := 0) F' N' (fun p hp => Nat.ne_of_lt (l1 p hp)) (by simpa using kv_ints l) ?_ ?_ fun out ns' h'' hI hP hS F'' N'' => h B out ns' h'' tk hI hP hS F'' N'' l1
  · simp only [List.size_toArray, List.length_map, kv_length]
    exact fun e => hne (List.eq_nil_of_length_eq_zero e)
  · simp only [List.length_map, kv_length]
    omega
end
end Mine
end
section
open PySem PySem.W PyProof.Rows
set_option maxRecDepth 100000
set_option maxHeartbeats 1000000
namespace Mine
open PySem.Spec PySem.Calls
theorem out_cases {out : Array Value} {ns : List Int} {l : Ask} (hI : IntsAre out.toList ns) (hP : ns.Perm (l.map (·.2.1))) (hS : ns.Pairwise (· ≤ ·)) (hl : l ≠ []) (h3 : l.length ≤ 3) :
    (∃ t, out = #[.int (minT l) t]) ∨ (∃ t b u, out = #[.int (minT l) t, .int b u]) ∨ (∃ t b u c v, out = #[.int (minT l) t, .int b u, .int c v]) := by
  have hmin : ∀ a r, ns = a :: r → a = minT l := by
    rintro a r rfl
    obtain ⟨e, he, hm⟩ := minT_mem hl
    refine Int.le_antisymm ?_ ?_
    · rw [← hm]
      have : e.2.1 ∈ a :: r := hP.mem_iff.mpr (List.mem_map_of_mem he)
      rcases List.mem_cons.mp this with q | q
      · rw [q]; exact Int.le_refl _
      · exact (List.pairwise_cons.mp hS).1 _ q
    · have : a ∈ l.map (·.2.1) := hP.mem_iff.mp (.head _)
      obtain ⟨f, hf, rfl⟩ := List.mem_map.mp this
      exact minT_le hf
  have hlen : ns.length = l.length := by rw [hP.length_eq, List.length_map]
  have h0 : l.length ≠ 0 := fun e => hl (List.eq_nil_of_length_eq_zero e)
  obtain ⟨o⟩ := out
  cases hI with
  | nil => simp at hlen; omega
  | cons a t r =>
    have ha := hmin _ _ rfl
    subst ha
    cases r with
    | nil => exact .inl ⟨t, rfl⟩
    | cons b u r =>
      cases r with
      | nil => exact .inr (.inl ⟨t, b, u, rfl⟩)
      | cons c v r =>
        cases r with
        | nil => exact .inr (.inr ⟨t, b, u, c, v, rfl⟩)
        | cons q z r => simp at hlen; omega

def JoinNext (h₀ : Heap) (L : Addr) (s : Shared) (m : Str → Option Value) (x : Str) (g : Tok → List (Addr × Obj)) (f : Flow) (s' : Shared) : Prop :=
  f = .next ∧ ∃ h' tk tv q, s' = { s with heap := h', toks := tk } ∧ Fr h₀ L h' (fun y => if y = x then some tv else m y) ∧ News h₀ L h' (g q)
theorem for_join {M : Model} {A : Around} {E : Value → Shared → Prop} {s : Shared} {h₀ : Heap} {L dx : Addr} {m : Str → Option Value} {o : Obj} {news : List (Addr × Obj)} {g : Obj → List (Addr × Obj)} {t : Sem Flow} {Q : Flow → Shared → Prop} (x : Str) (ob : Tok → Obj)
    (_F : Fr h₀ L s.heap m) (_N : News h₀ L s.heap news) (_U : UpdF dx o news g) (loop : wpAny M A t (JoinNext h₀ L s m x (fun q => g (ob q))) E s)
    (cont : ∀ h' tk tv q, Fr h₀ L h' (fun y => if y = x then some tv else m y) → News h₀ L h' (g (ob q)) → Q .next { s with heap := h', toks := tk }) : wpAny M A t Q E s :=
  wpAny_mono loop (fun f s' h => by obtain ⟨rfl, h', tk, tv, q, rfl, F', N'⟩ := h; exact cont h' tk tv q F' N') fun _ _ e => e
theorem fr_time {h₀ h : Heap} {L : Addr} {m m1 : Str → Option Value} {x : Str} {v : Value} (F : Fr h₀ L h (fun y => if y = x then some v else m1 y)) (h1 : ∀ y, y ≠ x → m1 y = m y) : Fr h₀ L h (fun y => if y = x then some v else m y) := by
  have e : (fun y => if y = x then some v else m1 y) = fun y => if y = x then some v else m y := by
    funext y
    by_cases q : y = x
    · rw [if_pos q, if_pos q]
    · rw [if_neg q, if_neg q, h1 y q]
  rw [← e]; exact F
theorem stored_kv {l : Ask} {x : Str} (h : x ∈ l.map (·.1)) (t : Int) (u : Tok) : stored (kv l) x (.int t u) = kv (l.map fun e => if e.1 = x then (e.1, t, u) else e) := by
  unfold stored
  have : (kv l).any (fun kv => kv.1 = x) = true := by
    obtain ⟨e, he, rfl⟩ := List.mem_map.mp h
    exact List.any_eq_true.mpr ⟨(e.1, .int e.2.1 e.2.2), List.mem_map.mpr ⟨e, he, rfl⟩, by simp⟩
  rw [if_pos this]
  unfold kv
  rw [List.map_map, List.map_map]
  refine List.map_congr_left fun e _ => ?_
  show (if e.1 = x then (e.1, Value.int t u) else (e.1, Value.int e.2.1 e.2.2)) = _
  by_cases q : e.1 = x
  · simp [q]
  · simp [q]
end Mine
end
section
open PySem PySem.W PyProof.Rows
set_option Elab.async false
set_option maxRecDepth 100000
set_option maxHeartbeats 8000000
set_option pp.deepTerms false
set_option pp.proofs.threshold 0
set_option linter.unusedSimpArgs false
namespace Mine
theorem c_probe_period (w : World) (b d c : Int) (t1 t2 t3 : Tok) (hb : 0 ≤ b) (hb' : b < 2 ^ 40) (hd : 0 ≤ d) (hd' : d < 2 ^ 20) (hc : 0 ≤ c) (hc' : c < 16) :
    Ctr w 3 29 [.int b t1, .int d t2, .int c t3] [] [] (fun r _ new => new = [] ∧ ∃ t, r = .int ((b + d) * 2 ^ c.toNat) t) := by
  k_with_none
  k_with "LTF" => (with_reducible first | (apply And.left; assumption) | (apply And.left; apply And.right; assumption) | (apply And.right; assumption) | (apply And.left; apply And.right; apply And.right; assumption) | (apply And.right; apply And.right; assumption) | (apply And.left; apply And.right; apply And.right; apply And.right; assumption) | (apply And.right; apply And.right; apply And.right; assumption) | (apply And.left; apply And.right; apply And.right; apply And.right; apply And.right; assumption) | (apply And.right; apply And.right; apply And.right; apply And.right; assumption) | (apply And.left; apply And.right; apply And.right; apply And.right; apply And.right; apply And.right; assumption) | (apply And.right; apply And.right; apply And.right; apply And.right; apply And.right; assumption) | (apply And.left; apply And.right; apply And.right; apply And.right; apply And.right; apply And.right; apply And.right; assumption) | (apply And.right; apply And.right; apply And.right; apply And.right; apply And.right; apply And.right; assumption) | (apply And.left; apply And.right; apply And.right; apply And.right; apply And.right; apply And.right; apply And.right; apply And.right; assumption) | (apply And.right; apply And.right; apply And.right; apply And.right; apply And.right; apply And.right; apply And.right; assumption) | (apply And.left; apply And.right; apply And.right; apply And.right; apply And.right; apply And.right; apply And.right; apply And.right; apply And.right; assumption) | (apply And.right; apply And.right; apply And.right; apply And.right; apply And.right; apply And.right; apply And.right; apply And.right; assumption) | (apply And.left; apply And.right; apply And.right; apply And.right; apply And.right; apply And.right; apply And.right; apply And.right; apply And.right; apply And.right; assumption) | (apply And.right; apply And.right; apply And.right; apply And.right; apply And.right; apply And.right; apply And.right; apply And.right; apply And.right; assumption) | (apply And.left; apply And.right; apply And.right; apply And.right; apply And.right; apply And.right; apply And.right; apply And.right; apply And.right; apply And.right; apply And.right; assumption) | (apply And.right; apply And.right; apply And.right; apply And.right; apply And.right; apply And.right; apply And.right; apply And.right; apply And.right; apply And.right; assumption) | (apply And.left; apply And.right; apply And.right; apply And.right; apply And.right; apply And.right; apply And.right; apply And.right; apply And.right; apply And.right; apply And.right; apply And.right; assumption) | (apply And.right; apply And.right; apply And.right; apply And.right; apply And.right; apply And.right; apply And.right; apply And.right; apply And.right; apply And.right; apply And.right; assumption) | (apply And.left; apply And.right; apply And.right; apply And.right; apply And.right; apply And.right; apply And.right; apply And.right; apply And.right; apply And.right; apply And.right; apply And.right; apply And.right; assumption) | (apply And.right; apply And.right; apply And.right; apply And.right; apply And.right; apply And.right; apply And.right; apply And.right; apply And.right; apply And.right; apply And.right; apply And.right; assumption))
  unfold Ctr
  k_fill
  intro dp un gd cn cs a ccd cl outer A₀ base h₀ L m s Q E mean mg mb B F X N T hk hdp hun hret
  have N0 := N
  clear N
  have N := N0
  simp only [List.nil_append, List.cons_append] at N
  k_dflt (refine' callR ?k1 ?k2 ?k3 ?k4 ?k5 ?kA ?kF ?kK ?k6 ?k7 ?k8 ?k9 ?kB ?_ ?c2 ?c3 ?c4 ?c5; (case kA => exact rfl); (case kF => exact rfl); (case kK => assumption); (case k1 => k_asm); (case k2 => k_asm); (case k3 => k_asm); (case k4 => k_asm); (case k5 => k_asm); (case k6 => k_is); (case k7 => k_is); (case k8 => ktr_room); (case k9 => exact BindsTo.of_eq rfl); (case c5 => decide); (case kB => exact locs rfl); (case c2 => exact rfl); (case c3 => exact rfl); (case c4 => exact rfl); k_whole; intro g' L' h' hg' FG' F' N' B' X' T'; (try dsimp only); (try k_fold))
  k_steps
  all_goals (refine' ctr_fin hret N0 ?hg ?hN ?hk [] [] ?hm ?hs ?ho ⟨rfl, _, rfl⟩; (case hg => assumption); (case hN => assumption); (case hk => assumption); (case hm => rfl); (case hs => k_subL); (case ho => simp only [List.forall_mem_cons, List.nil_append, List.cons_append, List.not_mem_nil, false_implies, implies_true, and_true, true_and] <;> (repeat' (first | apply And.intro | k_ne))))
end Mine
end
section
open PySem PySem.W PyProof.Rows
set_option maxRecDepth 100000
set_option maxHeartbeats 1000000
namespace Mine
open PySem.Spec PySem.Calls
section
variable {prog : Program} {w : World} {A : Around} {E : Value → Shared → Prop} {s : Shared} {env : Env} {h₀ : Heap} {x : Str} {body : List Stmt} {Q : Flow → Shared → Prop}
def SP3 : List Str := [sI, sH, sA]
/-- where a turn of a loop over the spaces ends -/
def Post2 (h₀ : Heap) (L : Addr) (J : (Str → Option Value) → List (Addr × Obj) → Prop) (own : Addr × Obj) (s₁ : Shared) (Q : Flow → Shared → Prop) (f : Flow) (s₂ : Shared) : Prop :=
  match f with
  | .ret v => Q (.ret v) s₂
  | .brk => Q .next s₂
  | _ => ∃ h' tk m' nx, s₂ = { s₁ with heap := h', toks := tk } ∧ Fr h₀ L h' m' ∧ News h₀ L h' (own :: nx) ∧ (∀ p ∈ nx, p.1 ≠ own.1) ∧ J m' nx
theorem iter_sp {K : Frag} {ax : Addr} {lo : Obj} {n : Nat} {a b c : Tok} {m₀ : Str → Option Value} {news : List (Addr × Obj)} (J : Nat → (Str → Option Value) → List (Addr × Obj) → Prop)
    (hh : A.handled = none) (X₀ : K.In h₀) (hk : K.lookup ax = some lo) (hc : lo.cls = .type "tuple") (hd : lo.data = .seq #[.str sI a, .str sH b, .str sA c] n) (F : Fr h₀ env.locals s.heap m₀) (N : News h₀ env.locals s.heap news) (hJ : J 0 m₀ news)
    (turn : ∀ (i : Nat) y t m₁ nx h tk I oI, SP3[i]? = some y → (∀ p ∈ nx, p.1 ≠ I) → J i m₁ nx → Fr h₀ env.locals h (fun z => if z = x then some (.str y t) else m₁ z) → News h₀ env.locals h ((I, oI) :: nx) →
      wpAny (model prog w) A (execs body env) (Post2 h₀ env.locals (J (i + 1)) (I, oI) { s with heap := h, toks := tk } Q) E { s with heap := h, toks := tk })
    (done : ∀ m₁ nx h tk, J 3 m₁ nx → Fr h₀ env.locals h m₁ → News h₀ env.locals h nx → Q .next { s with heap := h, toks := tk }) :
    wpAny (model prog w) A (pyIter (.ref ax)) (fun it s₂ => LoopAtV prog w A h₀ env x body Q E it s₂) E s := by
  have hg : h₀.get? ax = some lo := X₀ _ _ hk
  have hax : s.heap.get? ax = some lo := F.keep _ _ hg
  have hl : s.heap.IsTuple ax #[.str sI a, .str sH b, .str sA c] := ⟨lo, hax, hc, n, hd⟩
  have hlt : ax < s.heap.objs.size := Heap.lt_size hax
  have hne : ax ≠ s.heap.objs.size := Nat.ne_of_lt hlt
  refine wpAny_pyIter_tuple hl ?_
  refine ⟨_, [s.heap.objs.size, ax], [s.heap.objs.size], 3, _, _, m₀, news, J, rfl, Walks.tuple hh s.heap.objs.size ax hne #[.str sI a, .str sH b, .str sA c], ?_, ?_, ?_, ?_, F.push _, (fun p hp => ⟨Heap.get?_push_of_some _ (N p hp).1, (N p hp).2⟩), hJ, ?_, ?_⟩
  · intro hI
    rcases List.mem_cons.mp hI with e | hI
    · exact absurd F.ns.lt (e ▸ Nat.lt_irrefl _)
    · have e : env.locals = ax := List.mem_singleton.mp hI
      exact absurd (Heap.lt_size hg) (Nat.not_lt.mpr (e ▸ F.above))
  · intro b hb
    rw [List.mem_singleton.mp hb]
    exact next_is_new F
  · intro p hp hI
    exact absurd (Heap.lt_size (N p hp).1) ((List.mem_singleton.mp hI) ▸ Nat.lt_irrefl _)
  · exact ⟨⟨_, Heap.get?_push_size _ rfl, rfl, rfl⟩, hl.at fun o e => Heap.get?_push_of_some _ e⟩
  · rintro i v m₁ nx s₁ own ⟨hh', tk', rfl⟩ hin hv hJ' hoff hown hget hall hSt F₁ N₁
    obtain ⟨oI, hoI, _⟩ := hSt.1
    have hin' : (s.heap.objs.size, oI) ∈ own := hall _ (.head _) (next_is_new F) _ hoI
    have hone : ∀ p ∈ own, p = (s.heap.objs.size, oI) := fun p hp => by
      have h1 := hown p hp
      have h2 := hget p hp
      have h4 := (N₁ p (List.mem_append_left _ hp)).2.2
      rcases List.mem_cons.mp h1 with e | e
      · rw [e] at h2
        have h3 : oI = p.2 := Option.some.inj (hoI.symm.trans h2)
        rw [h3, ← e]
      · rw [List.mem_singleton.mp e, hg] at h4
        cases h4
    obtain ⟨y, t, hy, rfl⟩ : ∃ y t, SP3[i]? = some y ∧ v = .str y t := by
      have hv' : (#[Value.str sI a, Value.str sH b, Value.str sA c] : Array Value)[i]? = some v := hv
      match i, hin with
      | 0, _ => exact ⟨_, _, rfl, (Option.some.inj hv').symm⟩
      | 1, _ => exact ⟨_, _, rfl, (Option.some.inj hv').symm⟩
      | 2, _ => exact ⟨_, _, rfl, (Option.some.inj hv').symm⟩
      | n + 3, h => exact absurd h (by omega)
    have N₂ : News h₀ env.locals hh' ((s.heap.objs.size, oI) :: nx) := fun p hp => N₁ p (by
      rcases List.mem_cons.mp hp with rfl | hp
      · exact List.mem_append_left _ hin'
      · exact List.mem_append_right _ hp)
    have hoff' : ∀ p ∈ nx, p.1 ≠ s.heap.objs.size := fun p hp e => hoff p hp (List.mem_singleton.mpr e)
    refine wpAny_mono (turn i y t m₁ nx hh' tk' _ oI hy hoff' hJ' F₁ N₂) (fun f s₂ p => ?_) fun _ _ e => e
    have fin : (∃ h' tk m' nx', s₂ = { ({ s with heap := hh', toks := tk' } : Shared) with heap := h', toks := tk } ∧ Fr h₀ env.locals h' m' ∧ News h₀ env.locals h' ((s.heap.objs.size, oI) :: nx') ∧ (∀ p ∈ nx', p.1 ≠ s.heap.objs.size) ∧ J (i + 1) m' nx') →
        LoopStepU h₀ env.locals [s.heap.objs.size] own (J (i + 1)) { s with heap := hh', toks := tk' } .next s₂ := by
      rintro ⟨h', tk, m', nx', e, F', N', ha, hm⟩
      exact ⟨rfl, h', tk, m', nx', e, F', fun p hp => N' p ((List.mem_append.mp hp).elim (fun q => (hone p q) ▸ .head _) (.tail _)), fun p hp hq => ha p hp (List.mem_singleton.mp hq), hm⟩
    cases f with
    | ret v => exact p
    | brk => exact p
    | next => exact .next (fin p)
    | cont => exact .cont (fin p)
  · rintro h' tk m' news' F' N' _ hJ'
    exact done m' news' h' tk hJ' F' N'

theorem kv_at {l : Ask} {y : Str} {v : Value} (h : valueAt (kv l) y = some v) : ∃ a u, v = .int a u ∧ (y, a, u) ∈ l := by
  unfold valueAt at h
  cases q : (kv l).find? (fun e => e.1 = y) with
  | none => rw [q] at h; cases h
  | some e =>
    rw [q] at h; cases h
    have h1 := List.find?_some q
    have h2 := List.mem_of_find?_eq_some q
    unfold kv at h2
    obtain ⟨e', he, rfl⟩ := List.mem_map.mp h2
    have h3 : e'.1 = y := by simpa using h1
    exact ⟨_, _, rfl, by rw [← h3]; exact he⟩
theorem kv_none {l : Ask} {y : Str} (h : valueAt (kv l) y = none) : ∀ e ∈ l, e.1 ≠ y := by
  intro e he q
  unfold valueAt at h
  cases q' : (kv l).find? (fun e => e.1 = y) with
  | some e => rw [q'] at h; cases h
  | none =>
    have := List.find?_eq_none.mp q' (e.1, Value.int e.2.1 e.2.2) (by unfold kv; exact List.mem_map.mpr ⟨e, he, rfl⟩)
    simp [q] at this
theorem get_ask {L d : Addr} {o : Obj} {news : List (Addr × Obj)} {l : Ask} {y : Str} {t : Tok} {Q : Value → Shared → Prop} (N : News h₀ L s.heap news) (hp : (d, o) ∈ news) (hd : o.IsDictOf (PySem.strKind prog w) (kv l)) (lo : (d == sysModules) = false)
    (h : ∀ v, ((v = .none ∧ ∀ e ∈ l, e.1 ≠ y) ∨ ∃ a u, v = .int a u ∧ (y, a, u) ∈ l) → Q v { s with toks := s.toks + 1 }) :
    wpAny (model prog w) A (call (.builtin "dict.get") [.ref d, .str y t]) Q E s := by
  refine kdg_get1 N hp hd lo (strKind_is _ _ _ _) _ rfl (h _ ?_)
  cases q : valueAt (kv l) y with
  | none => exact .inl ⟨rfl, kv_none q⟩
  | some v =>
    obtain ⟨a, u, rfl, hm⟩ := kv_at q
    exact .inr ⟨a, u, rfl, hm⟩
end
end Mine
end
section
open PySem PySem.W PyProof.Rows
set_option maxRecDepth 100000
set_option maxHeartbeats 1000000
namespace Mine
open PySem.Spec PySem.Calls
theorem keys_nodup {l : Ask} (h : Keys7 (l.map (·.1))) : (l.map (·.1)).Nodup := by
  rcases h with h | h | h | h | h | h | h <;> rw [h] <;> decide
theorem key_uniq : ∀ {l : Ask}, (l.map (·.1)).Nodup → ∀ {e f : Str × Int × Tok}, e ∈ l → f ∈ l → e.1 = f.1 → e = f
  | a :: r, hn, e, f, he, hf, q => by
    rw [List.map_cons, List.nodup_cons] at hn
    rcases List.mem_cons.mp he with h1 | h1
    · rcases List.mem_cons.mp hf with h2 | h2
      · rw [h1, h2]
      · exact absurd (by rw [← h1, q]; exact List.mem_map_of_mem h2) hn.1
    · rcases List.mem_cons.mp hf with h2 | h2
      · exact absurd (by rw [← h2, ← q]; exact List.mem_map_of_mem h1) hn.1
      · exact key_uniq hn.2 h1 h2 q
theorem take_next {i : Nat} {y z : Str} (h : SP3[i]? = some y) : z ∈ SP3.take (i + 1) ↔ z ∈ SP3.take i ∨ z = y := by
  rw [List.take_add_one, h, List.mem_append]
  simp
theorem keys_in3 {l : Ask} (h : Keys7 (l.map (·.1))) {e} (he : e ∈ l) : e.1 ∈ SP3 := by
  have h1 : e.1 ∈ l.map (·.1) := List.mem_map_of_mem he
  rcases h with h | h | h | h | h | h | h <;> (rw [h] at h1; revert h1; unfold SP3; simp only [List.mem_cons, List.not_mem_nil, or_false]; intro h1; (first | (rcases h1 with h1 | h1 | h1 <;> simp [h1]) | (rcases h1 with h1 | h1 <;> simp [h1]) | simp [h1]))
theorem chain1 {m : Str → Option Value} {a : Str} {v : Option Value} (h : m a = v) : m = fun z => if z = a then v else m z := by
  funext z
  by_cases q : z = a
  · rw [if_pos q, q, h]
  · rw [if_neg q]
def EJ (l : Ask) (d : Addr) (o : Obj) (i : Nat) (m : Str → Option Value) (nx : List (Addr × Obj)) : Prop :=
  m (Str.ofString "times") = some (.ref d) ∧ ((m (Str.ofString "found") = some .none ∧ nx = [(d, o)] ∧ ∀ e ∈ l, e.1 ∉ SP3.take i) ∨
    ∃ p t u sp v, p ≠ d ∧ m (Str.ofString "found") = some (.ref p) ∧ nx = [(p, { cls := .type "tuple", data := .seq #[.int t u, .str sp v] }), (d, o)] ∧ (∀ e ∈ l, e.1 ∈ SP3.take i → t ≤ e.2.1) ∧ ∃ e ∈ l, sp = e.1 ∧ t = e.2.1)
def EPost (h₀ : Heap) (L : Addr) (l : Ask) (d : Addr) (o : Obj) (i : Nat) (own : Addr × Obj) (s₁ : Shared) (Q : Flow → Shared → Prop) (f : Flow) (s₂ : Shared) : Prop := Post2 h₀ L (EJ l d o (i + 1)) own s₁ Q f s₂
section
variable {h₀ h' : Heap} {L : Addr} {l : Ask} {d I p B : Addr} {o oI : Obj} {i : Nat} {y sp : Str} {t u v u' v' tk : Nat} {a b : Int} {m' : Str → Option Value} {s₁ : Shared} {Q : Flow → Shared → Prop} {news : List (Addr × Obj)}
theorem ePost_none (F : Fr h₀ L h' m') (N : News h₀ L h' news) (hs : ∀ q ∈ [(I, oI), (d, o)], q ∈ news) (h1 : m' (Str.ofString "times") = some (.ref d)) (h2 : m' (Str.ofString "found") = some .none) (hd : d ≠ I) (hy : SP3[i]? = some y)
    (h0 : ∀ e ∈ l, e.1 ∉ SP3.take i) (hn : ∀ e ∈ l, e.1 ≠ y) : EPost h₀ L l d o i (I, oI) s₁ Q .next { s₁ with heap := h', toks := tk } := by
  refine ⟨h', tk, m', [(d, o)], rfl, F, fun q hq => N q (hs q hq), fun q hq => by rw [List.mem_singleton.mp hq]; exact hd, h1, .inl ⟨h2, rfl, fun e he hq => ?_⟩⟩
  rcases (take_next hy).mp hq with hq | hq
  · exact h0 e he hq
  · exact hn e he hq
theorem ePost_new (F : Fr h₀ L h' m') (N : News h₀ L h' news) (hs : ∀ q ∈ [(I, oI), (B, ({ cls := .type "tuple", data := .seq #[.int b u', .str y v'] } : Obj)), (d, o)], q ∈ news) (h1 : m' (Str.ofString "times") = some (.ref d)) (h2 : m' (Str.ofString "found") = some (.ref B)) (hd : d ≠ I) (hB : B ≠ I) (hBd : B ≠ d)
    (hk : Keys7 (l.map (·.1))) (hy : SP3[i]? = some y) (hm : (y, b, u) ∈ l) (h0 : ∀ e ∈ l, e.1 ∈ SP3.take i → b ≤ e.2.1) : EPost h₀ L l d o i (I, oI) s₁ Q .next { s₁ with heap := h', toks := tk } := by
  refine ⟨h', tk, m', [(B, _), (d, o)], rfl, F, fun q hq => N q (hs q hq), fun q hq => ?_, h1, .inr ⟨B, b, u', y, v', hBd, h2, rfl, fun e he hq => ?_, _, hm, rfl, rfl⟩⟩
  · rcases List.mem_cons.mp hq with rfl | hq
    · exact hB
    · rw [List.mem_singleton.mp hq]; exact hd
  · rcases (take_next hy).mp hq with hq | hq
    · exact h0 e he hq
    · rw [key_uniq (keys_nodup hk) he hm hq]
      exact Int.le_refl _
theorem ePost_keep (F : Fr h₀ L h' m') (N : News h₀ L h' news) (hs : ∀ q ∈ [(I, oI), (p, ({ cls := .type "tuple", data := .seq #[.int a u', .str sp v'] } : Obj)), (d, o)], q ∈ news) (h1 : m' (Str.ofString "times") = some (.ref d)) (h2 : m' (Str.ofString "found") = some (.ref p)) (hd : d ≠ I) (hp : p ≠ I) (hpd : p ≠ d)
    (hk : Keys7 (l.map (·.1))) (hy : SP3[i]? = some y) (h0 : ∀ e ∈ l, e.1 ∈ SP3.take i → a ≤ e.2.1) (h3 : ∃ e ∈ l, sp = e.1 ∧ a = e.2.1) (hn : (∀ e ∈ l, e.1 ≠ y) ∨ ∃ b u, (y, b, u) ∈ l ∧ a ≤ b) : EPost h₀ L l d o i (I, oI) s₁ Q .next { s₁ with heap := h', toks := tk } := by
  refine ⟨h', tk, m', [(p, _), (d, o)], rfl, F, fun q hq => N q (hs q hq), fun q hq => ?_, h1, .inr ⟨p, a, u', sp, v', hpd, h2, rfl, fun e he hq => ?_, h3⟩⟩
  · rcases List.mem_cons.mp hq with rfl | hq
    · exact hp
    · rw [List.mem_singleton.mp hq]; exact hd
  · rcases (take_next hy).mp hq with hq | hq
    · exact h0 e he hq
    · rcases hn with hn | ⟨b, u, hm, hb⟩
      · exact absurd hq (hn e he)
      · rw [key_uniq (keys_nodup hk) he hm hq]
        exact hb
end
section
variable {prog : Program} {w : World} {A : Around} {E : Value → Shared → Prop} {s : Shared} {env : Env} {h₀ : Heap} {body : List Stmt} {Q : Flow → Shared → Prop}
theorem earliest_loop {K : Frag} {ax d : Addr} {lo o : Obj} {n : Nat} {a b c : Tok} {m₀ : Str → Option Value} {l : Ask}
    (hh : A.handled = none) (X₀ : K.In h₀) (hk : K.lookup ax = some lo) (hc : lo.cls = .type "tuple") (hd : lo.data = .seq #[.str sI a, .str sH b, .str sA c] n) (F : Fr h₀ env.locals s.heap m₀) (N : News h₀ env.locals s.heap [(d, o)])
    (h1 : m₀ (Str.ofString "times") = some (.ref d)) (h2 : m₀ (Str.ofString "found") = some .none) (h7 : Keys7 (l.map (·.1)))
    (turn0 : ∀ (i : Nat) y t (mr : Str → Option Value) h tk I oI, SP3[i]? = some y → d ≠ I → (∀ e ∈ l, e.1 ∉ SP3.take i) → Fr h₀ env.locals h (fun z => if z = Str.ofString "space" then some (.str y t) else if z = Str.ofString "found" then some .none else if z = Str.ofString "times" then some (.ref d) else mr z) → News h₀ env.locals h [(I, oI), (d, o)] →
      wpAny (model prog w) A (execs body env) (EPost h₀ env.locals l d o i (I, oI) { s with heap := h, toks := tk } Q) E { s with heap := h, toks := tk })
    (turn1 : ∀ (i : Nat) y t (mr : Str → Option Value) h tk I oI p a u sp v, SP3[i]? = some y → d ≠ I → p ≠ I → p ≠ d → (∀ e ∈ l, e.1 ∈ SP3.take i → a ≤ e.2.1) → (∃ e ∈ l, sp = e.1 ∧ a = e.2.1) → Fr h₀ env.locals h (fun z => if z = Str.ofString "space" then some (.str y t) else if z = Str.ofString "found" then some (.ref p) else if z = Str.ofString "times" then some (.ref d) else mr z) → News h₀ env.locals h [(I, oI), (p, { cls := .type "tuple", data := .seq #[.int a u, .str sp v] }), (d, o)] →
      wpAny (model prog w) A (execs body env) (EPost h₀ env.locals l d o i (I, oI) { s with heap := h, toks := tk } Q) E { s with heap := h, toks := tk })
    (done : ∀ p a u sp v (mr : Str → Option Value) h tk, p ≠ d → (∀ e ∈ l, a ≤ e.2.1) → (∃ e ∈ l, sp = e.1 ∧ a = e.2.1) → Fr h₀ env.locals h (fun z => if z = Str.ofString "found" then some (.ref p) else mr z) → News h₀ env.locals h [(p, { cls := .type "tuple", data := .seq #[.int a u, .str sp v] }), (d, o)] → Q .next { s with heap := h, toks := tk }) :
    wpAny (model prog w) A (pyIter (.ref ax)) (fun it s₂ => LoopAtV prog w A h₀ env (Str.ofString "space") body Q E it s₂) E s := by
  refine iter_sp (EJ l d o) hh X₀ hk hc hd F N ⟨h1, .inl ⟨h2, rfl, fun e _ hq => by simp [SP3] at hq⟩⟩ (fun i y t m₁ nx h tk I oI hy hoff hJ F₁ N₁ => ?_) fun m₁ nx h tk hJ F₁ N₁ => ?_
  · obtain ⟨e1, ⟨e2, rfl, h0⟩ | ⟨p, a, u, sp, v, hpd, e2, rfl, h0, h3⟩⟩ := hJ
    · rw [chain1 e2, chain1 e1] at F₁
      exact turn0 i y t m₁ h tk I oI hy (hoff _ (.head _)) h0 F₁ N₁
    · rw [chain1 e2, chain1 e1] at F₁
      exact turn1 i y t m₁ h tk I oI p a u sp v hy (hoff _ (.tail _ (.head _))) (hoff _ (.head _)) hpd h0 h3 F₁ N₁
  · obtain ⟨e1, ⟨e2, rfl, h0⟩ | ⟨p, a, u, sp, v, hpd, e2, rfl, h0, h3⟩⟩ := hJ
    · obtain ⟨e, he⟩ := List.exists_mem_of_ne_nil _ (keys_ne h7)
      exact absurd (keys_in3 h7 he) (h0 e he)
    · rw [chain1 e2] at F₁
      exact done p a u sp v m₁ h tk hpd (fun e he => h0 e he (keys_in3 h7 he)) h3 F₁ N₁
end
end Mine
end
section
open PySem PySem.W PyProof.Rows
set_option Elab.async false
set_option maxRecDepth 100000
set_option maxHeartbeats 8000000
set_option pp.deepTerms false
set_option pp.proofs.threshold 0
set_option linter.unusedSimpArgs false
namespace Mine
theorem c_earliest (w : World) (d : Addr) (o : Obj) (l : Ask) (h7 : Keys7 (l.map (·.1))) (hd : o.IsDictOf (strKind PySem.Challenge.rw_sj0109_01.row.prog w) (kv l)) (lo : (d == sysModules) = false) :
    Ctr w 3 36 [.ref d] [] [(d, o)]
      (fun r _ new => ∃ a t sp tk1 tk2, r = .ref a ∧ new = [(a, { cls := .type "tuple", data := .seq #[.int t tk1, .str sp tk2] })] ∧ (∀ e ∈ l, t ≤ e.2.1) ∧ ∃ e ∈ l, sp = e.1 ∧ t = e.2.1) := by
  k_with_none
  k_with "LTF" => (with_reducible first | (apply And.left; assumption) | (apply And.left; apply And.right; assumption) | (apply And.right; assumption) | (apply And.left; apply And.right; apply And.right; assumption) | (apply And.right; apply And.right; assumption) | (apply And.left; apply And.right; apply And.right; apply And.right; assumption) | (apply And.right; apply And.right; apply And.right; assumption) | (apply And.left; apply And.right; apply And.right; apply And.right; apply And.right; assumption) | (apply And.right; apply And.right; apply And.right; apply And.right; assumption) | (apply And.left; apply And.right; apply And.right; apply And.right; apply And.right; apply And.right; assumption) | (apply And.right; apply And.right; apply And.right; apply And.right; apply And.right; assumption) | (apply And.left; apply And.right; apply And.right; apply And.right; apply And.right; apply And.right; apply And.right; assumption) | (apply And.right; apply And.right; apply And.right; apply And.right; apply And.right; apply And.right; assumption) | (apply And.left; apply And.right; apply And.right; apply And.right; apply And.right; apply And.right; apply And.right; apply And.right; assumption) | (apply And.right; apply And.right; apply And.right; apply And.right; apply And.right; apply And.right; apply And.right; assumption) | (apply And.left; apply And.right; apply And.right; apply And.right; apply And.right; apply And.right; apply And.right; apply And.right; apply And.right; assumption) | (apply And.right; apply And.right; apply And.right; apply And.right; apply And.right; apply And.right; apply And.right; apply And.right; assumption) | (apply And.left; apply And.right; apply And.right; apply And.right; apply And.right; apply And.right; apply And.right; apply And.right; apply And.right; apply And.right; assumption) | (apply And.right; apply And.right; apply And.right; apply And.right; apply And.right; apply And.right; apply And.right; apply And.right; apply And.right; assumption) | (apply And.left; apply And.right; apply And.right; apply And.right; apply And.right; apply And.right; apply And.right; apply And.right; apply And.right; apply And.right; apply And.right; assumption) | (apply And.right; apply And.right; apply And.right; apply And.right; apply And.right; apply And.right; apply And.right; apply And.right; apply And.right; apply And.right; assumption) | (apply And.left; apply And.right; apply And.right; apply And.right; apply And.right; apply And.right; apply And.right; apply And.right; apply And.right; apply And.right; apply And.right; apply And.right; assumption) | (apply And.right; apply And.right; apply And.right; apply And.right; apply And.right; apply And.right; apply And.right; apply And.right; apply And.right; apply And.right; apply And.right; assumption) | (apply And.left; apply And.right; apply And.right; apply And.right; apply And.right; apply And.right; apply And.right; apply And.right; apply And.right; apply And.right; apply And.right; apply And.right; apply And.right; assumption) | (apply And.right; apply And.right; apply And.right; apply And.right; apply And.right; apply And.right; apply And.right; apply And.right; apply And.right; apply And.right; apply And.right; apply And.right; assumption))
  k_with "exec For Name Name cons nil" => ((k_here; (rename Fr _ _ _ _ => lF'); (with_unfolding_all refine' For_invVF lF' ?k1_q1 ?k2_q1 ?_; (case k1_q1 => exact rfl); (case k2_q1 => exact rfl); k_whole)))
  k_with "call builtin:dict.get" => ((k_here; k_dflt (refine' get_ask ?gN_q2 ?gp_q2 ?gd_q2 ?gl_q2 ?_; (case gN_q2 => k_asm); (case gp_q2 => k_mem); (case gd_q2 => assumption); (case gl_q2 => assumption); k_whole); intro v9 hv9; (obtain ⟨e9, hn9⟩ | ⟨a9, u9, e9, hm9⟩ := hv9) <;> subst e9))
  unfold Ctr
  k_fill
  intro dp un gd cn cs a ccd cl outer A₀ base h₀ L m s Q E mean mg mb B F X N T hk hdp hun hret
  have N0 := N
  clear N
  have N := N0
  simp only [List.nil_append, List.cons_append] at N
  k_dflt (refine' callR ?k1 ?k2 ?k3 ?k4 ?k5 ?kA ?kF ?kK ?k6 ?k7 ?k8 ?k9 ?kB ?_ ?c2 ?c3 ?c4 ?c5; (case kA => exact rfl); (case kF => exact rfl); (case kK => assumption); (case k1 => k_asm); (case k2 => k_asm); (case k3 => k_asm); (case k4 => k_asm); (case k5 => k_asm); (case k6 => k_is); (case k7 => k_is); (case k8 => ktr_room); (case k9 => exact BindsTo.of_eq rfl); (case c5 => decide); (case kB => exact locs rfl); (case c2 => exact rfl); (case c3 => exact rfl); (case c4 => exact rfl); k_whole; intro g' L' h' hg' FG' F' N' B' X' T'; (try dsimp only); (try k_fold))
  repeat' ((fail_if_success (with_reducible show wpAny _ _ (pyIter (Value.ref _)) _ _ _)); (first | (k_unfold; (try dsimp only)) | (k_end; wrow_close) | walk1 | (dsimp only; walk1) | (leave1; walk_say "STEP leave1"; try dsimp only) | fail "no step"))
  (rename Fr _ _ _ _ => lF')
  (rename News _ _ _ _ => lN')
  (rename Frag.In _ _ => lX')
  k_dflt (with_unfolding_all refine' earliest_loop ?qh lX' ?qk ?qc ?qd lF' lN' ?q1 ?q2 h7 ?turn0 ?turn1 ?done)
  case qh => rfl
  case qk => k_is
  case qc => rfl
  case qd => rfl
  case q1 => rfl
  case q2 => rfl
  case turn0 =>
    clear lF' lN'
    intro i9 y9 t9 mr9 h9 tk9 I9 oI9 hy9 hd9 h09 F9 N9
    (try dsimp only at N9)
    repeat' ((fail_if_success (with_reducible show EPost _ _ _ _ _ _ _ _ _ _ _)); (first | (k_unfold; (try dsimp only)) | (k_end; wrow_close) | walk1 | (dsimp only; walk1) | (leave1; walk_say "STEP leave1"; try dsimp only) | fail "no step"))
    all_goals first
      | (refine' ePost_none ?zF ?zN ?zs ?z1 ?z2 ?zd hy9 h09 ?z3; (case zF => assumption); (case zN => (rename News _ _ _ _ => lN'; exact lN')); (case zs => exact SubL.mem (by k_subL)); (case z1 => rfl); (case z2 => rfl); (case zd => assumption); (case z3 => assumption))
      | (refine' ePost_new ?zF ?zN ?zs ?z1 ?z2 ?zd ?zB ?zC h7 hy9 ?zm ?z3; (case zF => assumption); (case zN => (rename News _ _ _ _ => lN'; exact lN')); (case zs => exact SubL.mem (by k_subL)); (case z1 => rfl); (case z2 => rfl); (case zd => assumption); (case zB => k_ne); (case zC => k_ne); (case zm => assumption); (case z3 => exact fun e he hq => absurd hq (h09 e he)))
  case turn1 =>
    clear lF' lN'
    intro i9 y9 t9 mr9 h9 tk9 I9 oI9 p9 b9 w9 sp9 v9 hy9 hd9 hp9 hpd9 h09 h39 F9 N9
    (try dsimp only at N9)
    repeat' ((fail_if_success (with_reducible show EPost _ _ _ _ _ _ _ _ _ _ _)); (first | (k_unfold; (try dsimp only)) | (k_end; wrow_close) | walk1 | (dsimp only; walk1) | (leave1; walk_say "STEP leave1"; try dsimp only) | fail "no step"))
    all_goals first
      | (refine' ePost_keep ?zF ?zN ?zs ?z1 ?z2 ?zd hp9 hpd9 h7 hy9 h09 h39 ?z3; (case zF => assumption); (case zN => (rename News _ _ _ _ => lN'; exact lN')); (case zs => exact SubL.mem (by k_subL)); (case z1 => rfl); (case z2 => rfl); (case zd => assumption); (case z3 => first | exact .inl (by assumption) | exact .inr ⟨_, _, by assumption, by omega⟩))
      | (refine' ePost_new ?zF ?zN ?zs ?z1 ?z2 ?zd ?zB ?zC h7 hy9 ?zm ?z3; (case zF => assumption); (case zN => (rename News _ _ _ _ => lN'; exact lN')); (case zs => exact SubL.mem (by k_subL)); (case z1 => rfl); (case z2 => rfl); (case zd => assumption); (case zB => k_ne); (case zC => k_ne); (case zm => assumption); (case z3 => exact fun e he hq => by have := h09 e he hq; omega))
  case done =>
    clear lF' lN'
    intro p9 b9 w9 sp9 v9 mr9 h9 tk9 hpd9 h09 h39 F9 N9
    (try dsimp only at N9)
    repeat' (first | (k_unfold; (try dsimp only)) | (k_end; wrow_close) | walk1 | (dsimp only; walk1) | (leave1; walk_say "STEP leave1"; try dsimp only) | fail "no step")
    all_goals (refine' ctr_fin hret N0 ?hg ?hN ?hk [] [(_, _)] ?hm ?hs ?ho ⟨_, _, _, _, _, rfl, rfl, h09, h39⟩; (case hg => assumption); (case hN => assumption); (case hk => assumption); (case hm => rfl); (case hs => k_subL); (case ho => simp only [List.forall_mem_cons, List.nil_append, List.cons_append, List.not_mem_nil, false_implies, implies_true, and_true, true_and] <;> (repeat' (first | apply And.intro | k_ne))))
end Mine
end
section
open PySem PySem.W PyProof.Rows
set_option maxRecDepth 100000
set_option linter.unusedSimpArgs false
set_option maxHeartbeats 1000000
namespace Mine
open PySem.Spec PySem.Calls
def perOf (b dl c : Int) (x : Str) : Int := (b + (if x = sA then dl else 0)) * 2 ^ c.toNat
theorem ask_one {l : Ask} {x : Str} (h : l.map (·.1) = [x]) : ∃ a u, l = [(x, a, u)] := by
  match l, h with
  | [(y, a, u)], h => exact ⟨a, u, by cases h; rfl⟩
theorem ask_two {l : Ask} {x y : Str} (h : l.map (·.1) = [x, y]) : ∃ a u b v, l = [(x, a, u), (y, b, v)] := by
  match l, h with
  | [(_, a, u), (_, b, v)], h => exact ⟨a, u, b, v, by cases h; rfl⟩
theorem ask_three {l : Ask} {x y z : Str} (h : l.map (·.1) = [x, y, z]) : ∃ a u b v c q, l = [(x, a, u), (y, b, v), (z, c, q)] := by
  match l, h with
  | [(_, a, u), (_, b, v), (_, c, q)], h => exact ⟨a, u, b, v, c, q, by cases h; rfl⟩
def upto (i : Nat) (l : Ask) : Ask := l.filter fun e => decide (e.1 ∈ SP3.take i)
theorem neIH : ¬ sI = sH := by decide
theorem neIA : ¬ sI = sA := by decide
theorem neHA : ¬ sH = sA := by decide
theorem sp_notin {i : Nat} {y : Str} (h : SP3[i]? = some y) : y ∉ SP3.take i := by
  match i, h with
  | 0, h => simp
  | 1, h => cases h; simp [SP3, Ne.symm neIH]
  | 2, h => cases h; simp [SP3, Ne.symm neIA, Ne.symm neHA]
theorem upto_skip {l : Ask} {i : Nat} {y : Str} (h : SP3[i]? = some y) (hn : ∀ e ∈ l, e.1 ≠ y) : upto (i + 1) l = upto i l := by
  unfold upto
  refine List.filter_congr fun e he => ?_
  refine decide_eq_decide.mpr ⟨fun q => ?_, fun q => (take_next h).mpr (.inl q)⟩
  rcases (take_next h).mp q with q | q
  · exact q
  · exact absurd q (hn e he)
theorem upto_all {l : Ask} (h : Keys7 (l.map (·.1))) : upto 3 l = l := by
  unfold upto
  exact List.filter_eq_self.mpr fun e he => decide_eq_true (keys_in3 h he)
theorem upto_next {l : Ask} {i : Nat} {y : Str} {a : Int} {u : Tok} (h7 : Keys7 (l.map (·.1))) (h : SP3[i]? = some y) (hm : (y, a, u) ∈ l) : upto (i + 1) l = upto i l ++ [(y, a, u)] := by
  have no : y ∈ l.map (·.1) := List.mem_map_of_mem (f := (·.1)) hm
  have nd := keys_nodup h7
  match i, h with
  | 0, h =>
    cases h
    rcases h7 with h | h | h | h | h | h | h
    · obtain ⟨x0, u0, rfl⟩ := ask_one h
      cases key_uniq nd hm (.head _) rfl
      rfl
    · rw [h] at no; exact absurd no (by decide)
    · rw [h] at no; exact absurd no (by decide)
    · obtain ⟨x0, u0, x1, u1, rfl⟩ := ask_two h
      cases key_uniq nd hm (.head _) rfl
      rfl
    · obtain ⟨x0, u0, x1, u1, rfl⟩ := ask_two h
      cases key_uniq nd hm (.head _) rfl
      rfl
    · rw [h] at no; exact absurd no (by decide)
    · obtain ⟨x0, u0, x1, u1, x2, u2, rfl⟩ := ask_three h
      cases key_uniq nd hm (.head _) rfl
      rfl
  | 1, h =>
    cases h
    rcases h7 with h | h | h | h | h | h | h
    · rw [h] at no; exact absurd no (by decide)
    · obtain ⟨x0, u0, rfl⟩ := ask_one h
      cases key_uniq nd hm (.head _) rfl
      rfl
    · rw [h] at no; exact absurd no (by decide)
    · obtain ⟨x0, u0, x1, u1, rfl⟩ := ask_two h
      cases key_uniq nd hm (.tail _ (.head _)) rfl
      rfl
    · rw [h] at no; exact absurd no (by decide)
    · obtain ⟨x0, u0, x1, u1, rfl⟩ := ask_two h
      cases key_uniq nd hm (.head _) rfl
      rfl
    · obtain ⟨x0, u0, x1, u1, x2, u2, rfl⟩ := ask_three h
      cases key_uniq nd hm (.tail _ (.head _)) rfl
      rfl
  | 2, h =>
    cases h
    rcases h7 with h | h | h | h | h | h | h
    · rw [h] at no; exact absurd no (by decide)
    · rw [h] at no; exact absurd no (by decide)
    · obtain ⟨x0, u0, rfl⟩ := ask_one h
      cases key_uniq nd hm (.head _) rfl
      rfl
    · rw [h] at no; exact absurd no (by decide)
    · obtain ⟨x0, u0, x1, u1, rfl⟩ := ask_two h
      cases key_uniq nd hm (.tail _ (.head _)) rfl
      rfl
    · obtain ⟨x0, u0, x1, u1, rfl⟩ := ask_two h
      cases key_uniq nd hm (.tail _ (.head _)) rfl
      rfl
    · obtain ⟨x0, u0, x1, u1, x2, u2, rfl⟩ := ask_three h
      cases key_uniq nd hm (.tail _ (.tail _ (.head _))) rfl
      rfl
end Mine
end
section
open PySem PySem.W PyProof.Rows
set_option maxRecDepth 100000
set_option maxHeartbeats 1000000
namespace Mine
open PySem.Spec PySem.Calls
def due1 (b dl c : Int) (e : Str × Int × Tok) : Str × Int := (e.1, e.2.1 + perOf b dl c e.1)
def key1 (e : Str × Int × Tok) : Str × Int := (e.1, e.2.1)
section
variable (prog : Program) (w : World) (h₀ : Heap) (L : Addr) (l : Ask) (d : Addr) (o : Obj) (F0 : Addr) (b dl c : Int) (t1 t2 t3 : Tok)
def TJ (i : Nat) (m : Str → Option Value) (nx : List (Addr × Obj)) : Prop :=
  m (Str.ofString "last_asked") = some (.ref d) ∧ m (Str.ofString "base") = some (.int b t1) ∧ m (Str.ofString "most_delay") = some (.int dl t2) ∧ m (Str.ofString "count") = some (.int c t3) ∧ m (Str.ofString "is_confirmed") = some (.bool true) ∧ m (Str.ofString "found") = some (.ref F0) ∧
    ∃ oF l2, nx = [(F0, oF), (d, o)] ∧ oF.IsDictOf (PySem.strKind prog w) (kv l2) ∧ l2.map key1 = (upto i l).map (due1 b dl c)
def TPost (i : Nat) (own : Addr × Obj) (s₁ : Shared) (Q : Flow → Shared → Prop) (f : Flow) (s₂ : Shared) : Prop := Post2 h₀ L (TJ prog w l d o F0 b dl c t1 t2 t3 (i + 1)) own s₁ Q f s₂
end
section
variable {prog : Program} {w : World} {h₀ h' : Heap} {L : Addr} {l l2 : Ask} {d I F0 : Addr} {o oI oF : Obj} {i : Nat} {y : Str} {t1 t2 t3 u u' tk : Nat} {a n b dl c : Int} {m' : Str → Option Value} {s₁ : Shared} {Q : Flow → Shared → Prop} {news : List (Addr × Obj)}
theorem tPost_skip (F : Fr h₀ L h' m') (N : News h₀ L h' news) (hs : ∀ q ∈ [(I, oI), (F0, oF), (d, o)], q ∈ news)
    (hm : m' (Str.ofString "last_asked") = some (.ref d) ∧ m' (Str.ofString "base") = some (.int b t1) ∧ m' (Str.ofString "most_delay") = some (.int dl t2) ∧ m' (Str.ofString "count") = some (.int c t3) ∧ m' (Str.ofString "is_confirmed") = some (.bool true) ∧ m' (Str.ofString "found") = some (.ref F0))
    (hd : d ≠ I) (hF : F0 ≠ I) (hy : SP3[i]? = some y) (hD : oF.IsDictOf (PySem.strKind prog w) (kv l2)) (h0 : l2.map key1 = (upto i l).map (due1 b dl c)) (hn : ∀ e ∈ l, e.1 ≠ y) {f : Flow} (hf : f = .next ∨ f = .cont) :
    TPost prog w h₀ L l d o F0 b dl c t1 t2 t3 i (I, oI) s₁ Q f { s₁ with heap := h', toks := tk } := by
  obtain ⟨m1, m2, m3, m4, m5, m6⟩ := hm
  have r : ∃ h'' tk' m'' nx, ({ s₁ with heap := h', toks := tk } : Shared) = { s₁ with heap := h'', toks := tk' } ∧ Fr h₀ L h'' m'' ∧ News h₀ L h'' ((I, oI) :: nx) ∧ (∀ p ∈ nx, p.1 ≠ I) ∧ TJ prog w l d o F0 b dl c t1 t2 t3 (i + 1) m'' nx := by
    refine ⟨h', tk, m', [(F0, oF), (d, o)], rfl, F, fun q hq => N q (hs q hq), fun q hq => ?_, m1, m2, m3, m4, m5, m6, oF, l2, rfl, hD, ?_⟩
    · rcases List.mem_cons.mp hq with rfl | hq
      · exact hF
      · rw [List.mem_singleton.mp hq]; exact hd
    · rw [upto_skip hy hn]; exact h0
  rcases hf with rfl | rfl <;> exact r
theorem key1_notin {l2 : Ask} (hy : SP3[i]? = some y) (h0 : l2.map key1 = (upto i l).map (due1 b dl c)) : ¬ (kv l2).any (fun kv => kv.1 = y) = true := by
  intro h
  obtain ⟨e, he, q⟩ := List.any_eq_true.mp h
  unfold kv at he
  obtain ⟨e', he', rfl⟩ := List.mem_map.mp he
  have q' : e'.1 = y := by simpa using q
  have h1 : key1 e' ∈ (upto i l).map (due1 b dl c) := by rw [← h0]; exact List.mem_map_of_mem he'
  obtain ⟨g, hg, e2⟩ := List.mem_map.mp h1
  have h2 : g.1 ∈ SP3.take i := of_decide_eq_true (List.mem_filter.mp hg).2
  have e3 : (due1 b dl c g).1 = (key1 e').1 := by rw [e2]
  have h3 : g.1 = e'.1 := e3
  exact sp_notin hy (by rw [← q', ← h3]; exact h2)
theorem tPost_put (F : Fr h₀ L h' m') (N : News h₀ L h' news) (hs : ∀ q ∈ [(I, oI), (F0, oF), (d, o)], q ∈ news)
    (hm : m' (Str.ofString "last_asked") = some (.ref d) ∧ m' (Str.ofString "base") = some (.int b t1) ∧ m' (Str.ofString "most_delay") = some (.int dl t2) ∧ m' (Str.ofString "count") = some (.int c t3) ∧ m' (Str.ofString "is_confirmed") = some (.bool true) ∧ m' (Str.ofString "found") = some (.ref F0))
    (hd : d ≠ I) (hF : F0 ≠ I) (h7 : Keys7 (l.map (·.1))) (hy : SP3[i]? = some y) (hD : oF.IsDictOf (PySem.strKind prog w) (stored (kv l2) y (.int n u'))) (h0 : l2.map key1 = (upto i l).map (due1 b dl c)) (hn : (y, a, u) ∈ l) (hv : n = a + perOf b dl c y) :
    TPost prog w h₀ L l d o F0 b dl c t1 t2 t3 i (I, oI) s₁ Q .next { s₁ with heap := h', toks := tk } := by
  obtain ⟨m1, m2, m3, m4, m5, m6⟩ := hm
  have e : stored (kv l2) y (.int n u') = kv (l2 ++ [(y, n, u')]) := by
    unfold stored
    rw [if_neg (key1_notin hy h0)]
    simp [kv]
  rw [e] at hD
  refine ⟨h', tk, m', [(F0, oF), (d, o)], rfl, F, fun q hq => N q (hs q hq), fun q hq => ?_, m1, m2, m3, m4, m5, m6, oF, _, rfl, hD, ?_⟩
  · rcases List.mem_cons.mp hq with rfl | hq
    · exact hF
    · rw [List.mem_singleton.mp hq]; exact hd
  · rw [upto_next h7 hy hn, List.map_append, List.map_append, h0, hv]
    rfl
end
section
variable {prog : Program} {w : World} {A : Around} {E : Value → Shared → Prop} {s : Shared} {env : Env} {h₀ : Heap} {body : List Stmt} {Q : Flow → Shared → Prop}
theorem times_loop {K : Frag} {ax d F0 : Addr} {lo o oF0 : Obj} {n : Nat} {ta tb tc t1 t2 t3 : Tok} {b dl c : Int} {m₀ : Str → Option Value} {l : Ask}
    (hh : A.handled = none) (X₀ : K.In h₀) (hk : K.lookup ax = some lo) (hc : lo.cls = .type "tuple") (hd : lo.data = .seq #[.str sI ta, .str sH tb, .str sA tc] n) (F : Fr h₀ env.locals s.heap m₀) (N : News h₀ env.locals s.heap [(F0, oF0), (d, o)])
    (hm : m₀ (Str.ofString "last_asked") = some (.ref d) ∧ m₀ (Str.ofString "base") = some (.int b t1) ∧ m₀ (Str.ofString "most_delay") = some (.int dl t2) ∧ m₀ (Str.ofString "count") = some (.int c t3) ∧ m₀ (Str.ofString "is_confirmed") = some (.bool true) ∧ m₀ (Str.ofString "found") = some (.ref F0))
    (hD : oF0.IsDictOf (PySem.strKind prog w) []) (hFd : F0 ≠ d) (h7 : Keys7 (l.map (·.1)))
    (turn : ∀ (i : Nat) y t (mr : Str → Option Value) h tk I oI oF l2, SP3[i]? = some y → d ≠ I → F0 ≠ I → F0 ≠ d → oF.IsDictOf (PySem.strKind prog w) (kv l2) → l2.map key1 = (upto i l).map (due1 b dl c) →
      Fr h₀ env.locals h (fun z => if z = Str.ofString "space" then some (.str y t) else if z = Str.ofString "found" then some (.ref F0) else if z = Str.ofString "is_confirmed" then some (.bool true) else if z = Str.ofString "count" then some (.int c t3) else if z = Str.ofString "most_delay" then some (.int dl t2) else if z = Str.ofString "base" then some (.int b t1) else if z = Str.ofString "last_asked" then some (.ref d) else mr z) → News h₀ env.locals h [(I, oI), (F0, oF), (d, o)] →
      wpAny (model prog w) A (execs body env) (TPost prog w h₀ env.locals l d o F0 b dl c t1 t2 t3 i (I, oI) { s with heap := h, toks := tk } Q) E { s with heap := h, toks := tk })
    (done : ∀ oF l2 (mr : Str → Option Value) h tk, oF.IsDictOf (PySem.strKind prog w) (kv l2) → l2.map key1 = l.map (due1 b dl c) → Fr h₀ env.locals h (fun z => if z = Str.ofString "found" then some (.ref F0) else mr z) → News h₀ env.locals h [(F0, oF), (d, o)] → Q .next { s with heap := h, toks := tk }) :
    wpAny (model prog w) A (pyIter (.ref ax)) (fun it s₂ => LoopAtV prog w A h₀ env (Str.ofString "space") body Q E it s₂) E s := by
  obtain ⟨m1, m2, m3, m4, m5, m6⟩ := hm
  refine iter_sp (TJ prog w l d o F0 b dl c t1 t2 t3) hh X₀ hk hc hd F N ⟨m1, m2, m3, m4, m5, m6, oF0, [], rfl, hD, ?_⟩ (fun i y t m₁ nx h tk I oI hy hoff hJ F₁ N₁ => ?_) fun m₁ nx h tk hJ F₁ N₁ => ?_
  · have e : upto 0 l = [] := by
      unfold upto
      exact List.filter_eq_nil_iff.mpr fun e _ hq => by simp at hq
    rw [e]; rfl
  · obtain ⟨m1, m2, m3, m4, m5, m6, oF, l2, rfl, hD', h0⟩ := hJ
    rw [chain1 m6, chain1 m5, chain1 m4, chain1 m3, chain1 m2, chain1 m1] at F₁
    exact turn i y t m₁ h tk I oI oF l2 hy (hoff _ (.tail _ (.head _))) (hoff _ (.head _)) hFd hD' h0 F₁ N₁
  · obtain ⟨m1, m2, m3, m4, m5, m6, oF, l2, rfl, hD', h0⟩ := hJ
    rw [chain1 m6] at F₁
    rw [upto_all h7] at h0
    exact done oF l2 m₁ h tk hD' h0 F₁ N₁
end
theorem kv_small {l l2 : Ask} {i : Nat} {b dl c : Int} (h7 : Keys7 (l.map (·.1))) (h : l2.map key1 = (upto i l).map (due1 b dl c)) : (kv l2).length ≤ sizeLine := by
  have h1 := congrArg List.length h
  rw [List.length_map, List.length_map] at h1
  have h2 : (upto i l).length ≤ l.length := List.length_filter_le _ _
  have h3 := keys_len h7
  have h4 : (kv l2).length = l2.length := by simp [kv]
  have h5 : 3 ≤ sizeLine := Nat.le_of_ble_eq_true rfl
  omega
theorem per_app {a b dl c : Int} {y : Str} (h : (y == Str.ofString "application") = true) : a + (b + dl) * 2 ^ c.toNat = a + perOf b dl c y := by unfold perOf; rw [if_pos (eq_of_beq h)]
theorem per_not {a b dl c : Int} {y : Str} (h : (y == Str.ofString "application") = false) : a + (b + 0) * 2 ^ c.toNat = a + perOf b dl c y := by unfold perOf; rw [if_neg (fun e => by subst e; revert h; decide)]
theorem due_keys {l l2 : Ask} {b dl c : Int} (h : l2.map key1 = l.map (due1 b dl c)) : l2.map (·.1) = l.map (·.1) := by
  have := congrArg (List.map Prod.fst) h
  rw [List.map_map, List.map_map] at this
  exact this
theorem due_all {l l2 : Ask} {b dl c t : Int} (h : l2.map key1 = l.map (due1 b dl c)) (h1 : ∀ e ∈ l2, t ≤ e.2.1) : ∀ e ∈ l, t ≤ e.2.1 + perOf b dl c e.1 := by
  intro e he
  have h2 : due1 b dl c e ∈ l2.map key1 := by rw [h]; exact List.mem_map_of_mem he
  obtain ⟨g, hg, e2⟩ := List.mem_map.mp h2
  have e3 : (key1 g).2 = (due1 b dl c e).2 := by rw [e2]
  have h3 : g.2.1 = e.2.1 + perOf b dl c e.1 := e3
  rw [← h3]; exact h1 g hg
theorem due_some {l l2 : Ask} {b dl c t : Int} {sp : Str} (h : l2.map key1 = l.map (due1 b dl c)) (h1 : ∃ e ∈ l2, sp = e.1 ∧ t = e.2.1) : ∃ e ∈ l, sp = e.1 ∧ t = e.2.1 + perOf b dl c e.1 := by
  obtain ⟨g, hg, e1, e2⟩ := h1
  have h2 : key1 g ∈ l.map (due1 b dl c) := by rw [← h]; exact List.mem_map_of_mem hg
  obtain ⟨e, he, q⟩ := List.mem_map.mp h2
  have q1 : (due1 b dl c e).1 = (key1 g).1 := by rw [q]
  have q2 : (due1 b dl c e).2 = (key1 g).2 := by rw [q]
  exact ⟨e, he, e1.trans q1.symm, e2.trans q2.symm⟩
end Mine
end
section
open PySem PySem.W PyProof.Rows
set_option Elab.async false
set_option maxRecDepth 100000
set_option maxHeartbeats 8000000
set_option pp.deepTerms false
set_option pp.proofs.threshold 0
set_option linter.unusedSimpArgs false
namespace Mine
theorem c_times (w : World) (d : Addr) (o : Obj) (l : Ask) (b dl c : Int) (t1 t2 t3 : Tok) (h7 : Keys7 (l.map (·.1))) (hd : o.IsDictOf (strKind PySem.Challenge.rw_sj0109_01.row.prog w) (kv l)) (lo : (d == sysModules) = false)
    (hb : 0 ≤ b) (hb' : b < 2 ^ 40) (hl : 0 ≤ dl) (hl' : dl < 2 ^ 20) (hc : 0 ≤ c) (hc' : c < 16) :
    Ctr w 6 43 [.ref d, .int b t1, .int dl t2, .int c t3, .bool true] [] [(d, o)]
      (fun r _ new => ∃ a o2 l2, r = .ref a ∧ new = [(a, o2)] ∧ (a == sysModules) = false ∧ o2.IsDictOf (strKind PySem.Challenge.rw_sj0109_01.row.prog w) (kv l2) ∧ l2.map key1 = l.map (due1 b dl c)) := by
  k_with_none
  k_with "LTF" => (with_reducible first | (apply And.left; assumption) | (apply And.left; apply And.right; assumption) | (apply And.right; assumption) | (apply And.left; apply And.right; apply And.right; assumption) | (apply And.right; apply And.right; assumption) | (apply And.left; apply And.right; apply And.right; apply And.right; assumption) | (apply And.right; apply And.right; apply And.right; assumption) | (apply And.left; apply And.right; apply And.right; apply And.right; apply And.right; assumption) | (apply And.right; apply And.right; apply And.right; apply And.right; assumption) | (apply And.left; apply And.right; apply And.right; apply And.right; apply And.right; apply And.right; assumption) | (apply And.right; apply And.right; apply And.right; apply And.right; apply And.right; assumption) | (apply And.left; apply And.right; apply And.right; apply And.right; apply And.right; apply And.right; apply And.right; assumption) | (apply And.right; apply And.right; apply And.right; apply And.right; apply And.right; apply And.right; assumption) | (apply And.left; apply And.right; apply And.right; apply And.right; apply And.right; apply And.right; apply And.right; apply And.right; assumption) | (apply And.right; apply And.right; apply And.right; apply And.right; apply And.right; apply And.right; apply And.right; assumption) | (apply And.left; apply And.right; apply And.right; apply And.right; apply And.right; apply And.right; apply And.right; apply And.right; apply And.right; assumption) | (apply And.right; apply And.right; apply And.right; apply And.right; apply And.right; apply And.right; apply And.right; apply And.right; assumption) | (apply And.left; apply And.right; apply And.right; apply And.right; apply And.right; apply And.right; apply And.right; apply And.right; apply And.right; apply And.right; assumption) | (apply And.right; apply And.right; apply And.right; apply And.right; apply And.right; apply And.right; apply And.right; apply And.right; apply And.right; assumption) | (apply And.left; apply And.right; apply And.right; apply And.right; apply And.right; apply And.right; apply And.right; apply And.right; apply And.right; apply And.right; apply And.right; assumption) | (apply And.right; apply And.right; apply And.right; apply And.right; apply And.right; apply And.right; apply And.right; apply And.right; apply And.right; apply And.right; assumption) | (apply And.left; apply And.right; apply And.right; apply And.right; apply And.right; apply And.right; apply And.right; apply And.right; apply And.right; apply And.right; apply And.right; apply And.right; assumption) | (apply And.right; apply And.right; apply And.right; apply And.right; apply And.right; apply And.right; apply And.right; apply And.right; apply And.right; apply And.right; apply And.right; assumption) | (apply And.left; apply And.right; apply And.right; apply And.right; apply And.right; apply And.right; apply And.right; apply And.right; apply And.right; apply And.right; apply And.right; apply And.right; apply And.right; assumption) | (apply And.right; apply And.right; apply And.right; apply And.right; apply And.right; apply And.right; apply And.right; apply And.right; apply And.right; apply And.right; apply And.right; apply And.right; assumption))
  k_with "exec For Name Name cons nil" => ((k_here; (rename Fr _ _ _ _ => lF'); (with_unfolding_all refine' For_invVF lF' ?k1_q1 ?k2_q1 ?_; (case k1_q1 => exact rfl); (case k2_q1 => exact rfl); k_whole)))
  k_with "call builtin:dict.get" => ((k_here; k_dflt (refine' get_ask ?gN_q2 ?gp_q2 ?gd_q2 ?gl_q2 ?_; (case gN_q2 => k_asm); (case gp_q2 => k_mem); (case gd_q2 => assumption); (case gl_q2 => assumption); k_whole); intro v9 hv9; (obtain ⟨e9, hn9⟩ | ⟨a9, u9, e9, hm9⟩ := hv9) <;> subst e9))
  k_with "call ref" => ((k_here; k_dflt (refine' ctr_pure (c_probe_period _ _ _ _ _ _ _ ?s1_q5 ?s2_q5 ?s3_q5 ?s4_q5 ?s5_q5 ?s6_q5) ?k1_q5 ?k2_q5 ?k3_q5 ?k4_q5 ?k5_q5 ?kK_q5 ?kd_q5 ?ku_q5 ?ks_q5 ?_; (case k1_q5 => k_asm); (case k2_q5 => k_asm); (case k3_q5 => k_asm); (case k4_q5 => k_asm); (case k5_q5 => k_asm); (case kK_q5 => first | exact rfl | assumption); (case s1_q5 => first | assumption | omega | l_fact); (case s2_q5 => first | assumption | omega | l_fact); (case s3_q5 => first | assumption | omega | l_fact); (case s4_q5 => first | assumption | omega | l_fact); (case s5_q5 => first | assumption | omega | l_fact); (case s6_q5 => first | assumption | omega | l_fact); (case ks_q5 => k_subL); (case kd_q5 => ktr_room); (case ku_q5 => ktr_units); k_whole); intro r9 new9 h9 tk9 P9 F9 N9 D9; obtain ⟨e9, t9, e9x⟩ := P9; subst e9 e9x; (try simp only [List.nil_append] at N9); clear D9; (try dsimp only); (try k_fold)))
  k_with "setItem ref str" => ((k_here; k_dflt (refine' kda_set (knd := PySem.strKind _ _) ?F_q6 ?N_q6 ?U_q6 ?d_q6 (strKind_is _ _ _ _) ?z_q6 ?_; (case F_q6 => k_asm); (case N_q6 => k_asm); (case U_q6 => k_updF); (case d_q6 => assumption); (case z_q6 => exact kv_small h7 (by assumption))); intro h' o' F' N' hd'; (try dsimp only at N')))
  unfold Ctr
  k_fill
  intro dp un gd cn cs a ccd cl outer A₀ base h₀ L m s Q E mean mg mb B F X N T hk hdp hun hret
  have N0 := N
  clear N
  have N := N0
  simp only [List.nil_append, List.cons_append] at N
  k_dflt (refine' callR ?k1 ?k2 ?k3 ?k4 ?k5 ?kA ?kF ?kK ?k6 ?k7 ?k8 ?k9 ?kB ?_ ?c2 ?c3 ?c4 ?c5; (case kA => exact rfl); (case kF => exact rfl); (case kK => assumption); (case k1 => k_asm); (case k2 => k_asm); (case k3 => k_asm); (case k4 => k_asm); (case k5 => k_asm); (case k6 => k_is); (case k7 => k_is); (case k8 => ktr_room); (case k9 => exact BindsTo.of_eq rfl); (case c5 => decide); (case kB => exact locs rfl); (case c2 => exact rfl); (case c3 => exact rfl); (case c4 => exact rfl); k_whole; intro g' L' h' hg' FG' F' N' B' X' T'; (try dsimp only); (try k_fold))
  repeat' ((fail_if_success (with_reducible show wpAny _ _ (pyIter (Value.ref _)) _ _ _)); (first | (k_unfold; (try dsimp only)) | (k_end; wrow_close) | walk1 | (dsimp only; walk1) | (leave1; walk_say "STEP leave1"; try dsimp only) | fail "no step"))
  (rename Fr _ _ _ _ => lF')
  (rename News _ _ _ _ => lN')
  (rename Frag.In _ _ => lX')
  k_dflt (with_unfolding_all refine' times_loop (l := l) (b := b) (dl := dl) (c := c) (t1 := t1) (t2 := t2) (t3 := t3) ?qh lX' ?qk ?qc ?qd lF' lN' ?qm ?qD ?qf h7 ?turn ?done)
  case qh => rfl
  case qk => k_is
  case qc => rfl
  case qd => rfl
  case qm => exact ⟨rfl, rfl, rfl, rfl, rfl, rfl⟩
  case qD => assumption
  case qf => k_ne
  case turn =>
    clear lF' lN'
    intro i9 y9 t9 mr9 h9 tk9 I9 oI9 oF9 l29 hy9 hd9 hF9 hFd9 hD9 h09 F9 N9
    (try dsimp only at N9)
    repeat' ((fail_if_success (with_reducible show TPost _ _ _ _ _ _ _ _ _ _ _ _ _ _ _ _ _ _ _)); (first | (k_unfold; (try dsimp only)) | (k_end; wrow_close) | walk1 | (dsimp only; walk1) | (leave1; walk_say "STEP leave1"; try dsimp only) | fail "no step"))
    all_goals first
      | (exfalso; contradiction)
      | (refine' tPost_skip ?zF ?zN ?zs ?zm ?zd ?ze hy9 hD9 h09 ?z3 ?z4; (case zF => assumption); (case zN => (rename News _ _ _ _ => lN'; exact lN')); (case zs => exact SubL.mem (by k_subL)); (case zm => exact ⟨rfl, rfl, rfl, rfl, rfl, rfl⟩); (case zd => assumption); (case ze => assumption); (case z3 => assumption); (case z4 => first | exact .inl rfl | exact .inr rfl))
      | (refine' tPost_put ?zF ?zN ?zs ?zm ?zd ?ze h7 hy9 ?zD h09 ?zh ?zv; (case zF => assumption); (case zN => (rename News _ _ _ _ => lN'; exact lN')); (case zs => exact SubL.mem (by k_subL)); (case zm => exact ⟨rfl, rfl, rfl, rfl, rfl, rfl⟩); (case zd => assumption); (case ze => assumption); (case zD => assumption); (case zh => assumption); (case zv => first | (refine per_app ?_; assumption) | (refine per_not ?_; assumption)))
  case done =>
    clear lF' lN'
    intro oF9 l29 mr9 h9 tk9 hD9 h09 F9 N9
    (try dsimp only at N9)
    repeat' (first | (k_unfold; (try dsimp only)) | (k_end; wrow_close) | walk1 | (dsimp only; walk1) | (leave1; walk_say "STEP leave1"; try dsimp only) | fail "no step")
    all_goals (refine' ctr_fin hret N0 ?hg ?hN ?hk [] [(_, _)] ?hm ?hs ?ho ⟨_, _, _, rfl, rfl, ?q1, hD9, h09⟩; (case hg => assumption); (case hN => assumption); (case hk => assumption); (case hm => rfl); (case hs => k_subL); (case ho => simp only [List.forall_mem_cons, List.nil_append, List.cons_append, List.not_mem_nil, false_implies, implies_true, and_true, true_and] <;> (repeat' (first | apply And.intro | k_ne))); (case q1 => assumption))
end Mine
end
section
open PySem PySem.W PyProof.Rows
set_option Elab.async false
set_option maxRecDepth 100000
set_option maxHeartbeats 8000000
set_option pp.deepTerms false
set_option pp.proofs.threshold 0
set_option linter.unusedSimpArgs false
namespace Mine
theorem isnot_ask {M : Model} {A : Around} {E : Value → Shared → Prop} {s : Shared} {l : Ask} {y : Str} {v : Value} {Q : Value → Shared → Prop} (hv : (v = .none ∧ ∀ e ∈ l, e.1 ≠ y) ∨ ∃ a u, v = .int a u ∧ (y, a, u) ∈ l) (h : ∀ b : Bool, (b = false → ∀ e ∈ l, e.1 ≠ y) → Q (.bool b) s) :
    wpAny M A (compareOp .IsNot v .none) Q E s := by
  rcases hv with ⟨rfl, hn⟩ | ⟨a, u, rfl, hm⟩
  · exact wpAny_isNot_self rfl (h false fun _ => hn)
  · exact isnot_int_none (h true fun e => by cases e)
theorem any_none {l : Ask} (h7 : Keys7 (l.map (·.1))) (h1 : ∀ e ∈ l, e.1 ≠ sI) (h2 : ∀ e ∈ l, e.1 ≠ sH) (h3 : ∀ e ∈ l, e.1 ≠ sA) : False := by
  obtain ⟨e, he⟩ := List.exists_mem_of_ne_nil _ (keys_ne h7)
  have h := keys_in3 h7 he
  unfold SP3 at h
  simp only [List.mem_cons, List.not_mem_nil, or_false] at h
  rcases h with h | h | h
  · exact h1 e he h
  · exact h2 e he h
  · exact h3 e he h
theorem any_true {l : Ask} {b1 b2 b3 : Bool} (h7 : Keys7 (l.map (·.1))) (h1 : b1 = false → ∀ e ∈ l, e.1 ≠ sI) (h2 : b2 = false → ∀ e ∈ l, e.1 ≠ sH) (h3 : b3 = false → ∀ e ∈ l, e.1 ≠ sA) : Value.bool (b1 || (b2 || b3)) = Value.bool true := by
  cases b1 <;> cases b2 <;> cases b3 <;> first | rfl | exact (any_none h7 (h1 rfl) (h2 rfl) (h3 rfl)).elim
theorem c_any (w : World) (d : Addr) (o : Obj) (l : Ask) (h7 : Keys7 (l.map (·.1))) (hd : o.IsDictOf (strKind PySem.Challenge.rw_sj0109_01.row.prog w) (kv l)) (lo : (d == sysModules) = false) :
    Ctr w 5 48 [.ref d] [] [(d, o)] (fun r _ new => new = [] ∧ r = .bool true) := by
  k_with_none
  k_with "LTF" => (with_reducible first | (apply And.left; assumption) | (apply And.left; apply And.right; assumption) | (apply And.right; assumption) | (apply And.left; apply And.right; apply And.right; assumption) | (apply And.right; apply And.right; assumption) | (apply And.left; apply And.right; apply And.right; apply And.right; assumption) | (apply And.right; apply And.right; apply And.right; assumption) | (apply And.left; apply And.right; apply And.right; apply And.right; apply And.right; assumption) | (apply And.right; apply And.right; apply And.right; apply And.right; assumption) | (apply And.left; apply And.right; apply And.right; apply And.right; apply And.right; apply And.right; assumption) | (apply And.right; apply And.right; apply And.right; apply And.right; apply And.right; assumption) | (apply And.left; apply And.right; apply And.right; apply And.right; apply And.right; apply And.right; apply And.right; assumption) | (apply And.right; apply And.right; apply And.right; apply And.right; apply And.right; apply And.right; assumption) | (apply And.left; apply And.right; apply And.right; apply And.right; apply And.right; apply And.right; apply And.right; apply And.right; assumption) | (apply And.right; apply And.right; apply And.right; apply And.right; apply And.right; apply And.right; apply And.right; assumption) | (apply And.left; apply And.right; apply And.right; apply And.right; apply And.right; apply And.right; apply And.right; apply And.right; apply And.right; assumption) | (apply And.right; apply And.right; apply And.right; apply And.right; apply And.right; apply And.right; apply And.right; apply And.right; assumption) | (apply And.left; apply And.right; apply And.right; apply And.right; apply And.right; apply And.right; apply And.right; apply And.right; apply And.right; apply And.right; assumption) | (apply And.right; apply And.right; apply And.right; apply And.right; apply And.right; apply And.right; apply And.right; apply And.right; apply And.right; assumption) | (apply And.left; apply And.right; apply And.right; apply And.right; apply And.right; apply And.right; apply And.right; apply And.right; apply And.right; apply And.right; apply And.right; assumption) | (apply And.right; apply And.right; apply And.right; apply And.right; apply And.right; apply And.right; apply And.right; apply And.right; apply And.right; apply And.right; assumption) | (apply And.left; apply And.right; apply And.right; apply And.right; apply And.right; apply And.right; apply And.right; apply And.right; apply And.right; apply And.right; apply And.right; apply And.right; assumption) | (apply And.right; apply And.right; apply And.right; apply And.right; apply And.right; apply And.right; apply And.right; apply And.right; apply And.right; apply And.right; apply And.right; assumption) | (apply And.left; apply And.right; apply And.right; apply And.right; apply And.right; apply And.right; apply And.right; apply And.right; apply And.right; apply And.right; apply And.right; apply And.right; apply And.right; assumption) | (apply And.right; apply And.right; apply And.right; apply And.right; apply And.right; apply And.right; apply And.right; apply And.right; apply And.right; apply And.right; apply And.right; apply And.right; assumption))
  k_with "call builtin:dict.get" => ((k_here; k_dflt (refine' get_ask ?gN_q2 ?gp_q2 ?gd_q2 ?gl_q2 ?_; (case gN_q2 => k_asm); (case gp_q2 => k_mem); (case gd_q2 => assumption); (case gl_q2 => assumption); k_whole); intro v9 hv9))
  k_with "compareOp IsNot none" => ((k_here; k_dflt (refine' isnot_ask (by assumption) ?_; k_whole); intro b9 hb9))
  k_with "compareOp IsNot" => ((k_here; k_dflt (refine' isnot_ask (by assumption) ?_; k_whole); intro b9 hb9))
  k_with "eval ListComp" => ((k_here; k_dflt (refine ListComp_tup (F₀ := by k_asm) (by with_unfolding_all rfl) (by decide) (by rfl) (by decide) (by rfl) ?_)))
  k_with "exec Assign cons ListComp" => ((k_here; k_dflt (refine Assign_ListComp_tup (F₀ := by k_asm) (by rfl) (by with_unfolding_all rfl) (by with_unfolding_all rfl) (by decide) (by rfl) (by decide) (by rfl) (by rfl) (by rfl) ?_)))
  k_with "SrcTup" => ((k_here; k_dflt (first
  | (refine SrcTup.ledger (by rfl) (by k_asm) (by k_asm) (by k_mem) (by first | size_fits | exact Nat.le_of_ble_eq_true rfl) ?_; intro g'; lcg_lit)
  | (refine' SrcTup.base ?hh_r4 ?F_r4 ?N_r4 ?X_r4 ?k_r4 ?c_r4 ?d_r4 ?z_r4 ?_; (case hh_r4 => rfl); (case F_r4 => k_asm); (case N_r4 => k_asm); (case X_r4 => k_asm); (case k_r4 => k_is); (case c_r4 => rfl); (case d_r4 => exact rfl); (case z_r4 => first | size_fits | exact Nat.le_of_ble_eq_true rfl); intro hT g'; lcg_lit))))
  k_with "SrcTupT" => ((k_here; k_dflt (refine SrcTupT.ledger (by rfl) (by k_asm) (by k_asm) (by k_mem) (by first | size_fits | exact Nat.le_of_ble_eq_true rfl) ?_; intro g'; lct_lit)))
  unfold Ctr
  k_fill
  intro dp un gd cn cs a ccd cl outer A₀ base h₀ L m s Q E mean mg mb B F X N T hk hdp hun hret
  have N0 := N
  clear N
  have N := N0
  simp only [List.nil_append, List.cons_append] at N
  k_dflt (refine' callRC ?k1 ?k2 ?k3 ?k4 ?k5 ?kA ?kF ?kK ?k6 ?k7 ?k8 ?k9 ?kB ?kD ?_ ?c2 ?c3 ?c4; (case kA => exact rfl); (case kF => exact rfl); (case kK => assumption); (case k1 => k_asm); (case k2 => k_asm); (case k3 => k_asm); (case k4 => k_asm); (case k5 => k_asm); (case k6 => k_is); (case k7 => k_is); (case k8 => ktr_room); (case k9 => exact BindsTo.of_eq rfl); (case kB => exact rfl); (case kD => decide +kernel); (case c2 => exact rfl); (case c3 => exact rfl); (case c4 => exact rfl); k_whole; intro g' L' h' tk' cells' hg' FG' F' N' Y' B' X' T' l1; (try k_lt l1); k_cells Y'; (try simp only [List.cons_append, List.nil_append] at N'); (try dsimp only); (try k_fold))
  repeat' (first | (k_unfold; (try dsimp only)) | (k_end; wrow_close) | walk1 | (dsimp only; walk1) | (leave1; walk_say "STEP leave1"; try dsimp only) | fail "no step")
  all_goals first
    | (refine' ctr_fin hret N0 ?hg ?hN ?hk [] [] ?hm ?hs ?ho ⟨rfl, ?qv⟩; (case qv => (refine any_true h7 ?_ ?_ ?_ <;> assumption)); (case hg => assumption); (case hN => assumption); (case hk => assumption); (case hm => rfl); (case hs => k_subL); (case ho => simp only [List.forall_mem_cons, List.nil_append, List.cons_append, List.not_mem_nil, false_implies, implies_true, and_true, true_and] <;> (repeat' (first | apply And.intro | k_ne))))
end Mine
end
section
open PySem PySem.W PyProof.Rows
set_option Elab.async false
set_option maxRecDepth 100000
set_option maxHeartbeats 8000000
set_option pp.deepTerms false
set_option pp.proofs.threshold 0
set_option linter.unusedSimpArgs false
namespace Mine
theorem Ctr.mono {w : World} {n : Nat} {f : Addr} {vs : List Value} {mt ro : List (Addr × Obj)} {P P' : Value → List (Addr × Obj) → List (Addr × Obj) → Prop} (C : Ctr w n f vs mt ro P) (h : ∀ r mt' new, P r mt' new → P' r mt' new) : Ctr w n f vs mt ro P' :=
  fun dp un gd cn cs a ccd cl outer A₀ base h₀ L m s Q E mean mg mb B F X N T hk hd hu hret => C dp un gd cn cs a ccd cl outer A₀ base h₀ L m s Q E mean mg mb B F X N T hk hd hu fun r mt' new h' tk' p => hret r mt' new h' tk' (h _ _ _ p)
theorem per_I (b dl c : Int) : perOf b dl c (Str.ofString "initial") = (b + 0) * 2 ^ c.toNat := by unfold perOf; rw [if_neg (by decide)]
theorem per_H (b dl c : Int) : perOf b dl c (Str.ofString "handshake") = (b + 0) * 2 ^ c.toNat := by unfold perOf; rw [if_neg (by decide)]
theorem per_A (b dl c : Int) : perOf b dl c (Str.ofString "application") = (b + dl) * 2 ^ c.toNat := by unfold perOf; rw [if_pos rfl]
theorem c_due (w : World) (d : Addr) (o : Obj) (l : Ask) (b dl c nw : Int) (t1 t2 t3 t4 : Tok) (h7 : Keys7 (l.map (·.1))) (hd : o.IsDictOf (strKind PySem.Challenge.rw_sj0109_01.row.prog w) (kv l)) (lo : (d == sysModules) = false)
    (hb : 0 ≤ b) (hb' : b < 2 ^ 40) (hl : 0 ≤ dl) (hl' : dl < 2 ^ 20) (hc : 0 ≤ c) (hc' : c < 16) :
    Ctr w 8 55 [.ref d, .int b t1, .int dl t2, .int c t3, .bool true, .bool true, .bool true, .int nw t4] [] [(d, o)]
      (fun r _ new => ∃ a t sp tk1 tk2, r = .ref a ∧ new = [(a, { cls := .type "tuple", data := .seq #[.int t tk1, .str sp tk2] })] ∧ (∀ e ∈ l, t ≤ e.2.1 + perOf b dl c e.1) ∧ ∃ e ∈ l, sp = e.1 ∧ t = e.2.1 + perOf b dl c e.1) := by
  k_with_none
  k_with "LTF" => (with_reducible first | (apply And.left; assumption) | (apply And.left; apply And.right; assumption) | (apply And.right; assumption) | (apply And.left; apply And.right; apply And.right; assumption) | (apply And.right; apply And.right; assumption) | (apply And.left; apply And.right; apply And.right; apply And.right; assumption) | (apply And.right; apply And.right; apply And.right; assumption) | (apply And.left; apply And.right; apply And.right; apply And.right; apply And.right; assumption) | (apply And.right; apply And.right; apply And.right; apply And.right; assumption) | (apply And.left; apply And.right; apply And.right; apply And.right; apply And.right; apply And.right; assumption) | (apply And.right; apply And.right; apply And.right; apply And.right; apply And.right; assumption) | (apply And.left; apply And.right; apply And.right; apply And.right; apply And.right; apply And.right; apply And.right; assumption) | (apply And.right; apply And.right; apply And.right; apply And.right; apply And.right; apply And.right; assumption) | (apply And.left; apply And.right; apply And.right; apply And.right; apply And.right; apply And.right; apply And.right; apply And.right; assumption) | (apply And.right; apply And.right; apply And.right; apply And.right; apply And.right; apply And.right; apply And.right; assumption) | (apply And.left; apply And.right; apply And.right; apply And.right; apply And.right; apply And.right; apply And.right; apply And.right; apply And.right; assumption) | (apply And.right; apply And.right; apply And.right; apply And.right; apply And.right; apply And.right; apply And.right; apply And.right; assumption) | (apply And.left; apply And.right; apply And.right; apply And.right; apply And.right; apply And.right; apply And.right; apply And.right; apply And.right; apply And.right; assumption) | (apply And.right; apply And.right; apply And.right; apply And.right; apply And.right; apply And.right; apply And.right; apply And.right; apply And.right; assumption) | (apply And.left; apply And.right; apply And.right; apply And.right; apply And.right; apply And.right; apply And.right; apply And.right; apply And.right; apply And.right; apply And.right; assumption) | (apply And.right; apply And.right; apply And.right; apply And.right; apply And.right; apply And.right; apply And.right; apply And.right; apply And.right; apply And.right; assumption) | (apply And.left; apply And.right; apply And.right; apply And.right; apply And.right; apply And.right; apply And.right; apply And.right; apply And.right; apply And.right; apply And.right; apply And.right; assumption) | (apply And.right; apply And.right; apply And.right; apply And.right; apply And.right; apply And.right; apply And.right; apply And.right; apply And.right; apply And.right; apply And.right; assumption) | (apply And.left; apply And.right; apply And.right; apply And.right; apply And.right; apply And.right; apply And.right; apply And.right; apply And.right; apply And.right; apply And.right; apply And.right; apply And.right; assumption) | (apply And.right; apply And.right; apply And.right; apply And.right; apply And.right; apply And.right; apply And.right; apply And.right; apply And.right; apply And.right; apply And.right; apply And.right; assumption))
  k_with "call ref" => ((k_here; k_dflt (refine' ctr_pure (c_any _ _ _ _ ?h0_q11 ?h1_q11 ?h2_q11) ?k1_q11 ?k2_q11 ?k3_q11 ?k4_q11 ?k5_q11 ?kK_q11 ?kd_q11 ?ku_q11 ?ks_q11 ?_; (case k1_q11 => k_asm); (case k2_q11 => k_asm); (case k3_q11 => k_asm); (case k4_q11 => k_asm); (case k5_q11 => k_asm); (case kK_q11 => first | exact rfl | assumption); (case ks_q11 => k_subL); (case h0_q11 => assumption); (case h1_q11 => assumption); (case h2_q11 => assumption); (case kd_q11 => ktr_room); (case ku_q11 => ktr_units); k_whole); intro r9 new9 h9 tk9 P9 F9 N9 D9; obtain ⟨e9, e9x⟩ := P9; subst e9 e9x; (try simp only [List.nil_append] at N9); clear D9; (try dsimp only); (try k_fold)))
  k_with "call ref" => ((k_here; k_dflt (refine' ctr_pure (c_times _ _ _ _ _ _ _ _ _ _ ?h0_q12 ?h1_q12 ?h2_q12 ?s1_q12 ?s2_q12 ?s3_q12 ?s4_q12 ?s5_q12 ?s6_q12) ?k1_q12 ?k2_q12 ?k3_q12 ?k4_q12 ?k5_q12 ?kK_q12 ?kd_q12 ?ku_q12 ?ks_q12 ?_; (case k1_q12 => k_asm); (case k2_q12 => k_asm); (case k3_q12 => k_asm); (case k4_q12 => k_asm); (case k5_q12 => k_asm); (case kK_q12 => first | exact rfl | assumption); (case ks_q12 => k_subL); (case h0_q12 => assumption); (case h1_q12 => assumption); (case h2_q12 => assumption); (case s1_q12 => first | assumption | omega | l_fact); (case s2_q12 => first | assumption | omega | l_fact); (case s3_q12 => first | assumption | omega | l_fact); (case s4_q12 => first | assumption | omega | l_fact); (case s5_q12 => first | assumption | omega | l_fact); (case s6_q12 => first | assumption | omega | l_fact); (case kd_q12 => ktr_room); (case ku_q12 => ktr_units); k_whole); intro r9 new9 h9 tk9 P9 F9 N9 D9; obtain ⟨a9, o9, l9, e9, e9x, lo9, P9, P9x⟩ := P9; subst e9 e9x; (have K9 := P9x); (replace K9 := due_keys K9); (have K9x := h7); (rw [← K9] at K9x); (simp only [List.cons_append, List.nil_append] at N9); (simp only [OffAll, OffNew, and_true] at D9); (try dsimp only); (try k_fold)))
  k_with "call ref" => ((k_here; k_dflt (refine' ctr_pure (c_earliest _ _ _ _ ?h0_q13 ?h1_q13 ?h2_q13) ?k1_q13 ?k2_q13 ?k3_q13 ?k4_q13 ?k5_q13 ?kK_q13 ?kd_q13 ?ku_q13 ?ks_q13 ?_; (case k1_q13 => k_asm); (case k2_q13 => k_asm); (case k3_q13 => k_asm); (case k4_q13 => k_asm); (case k5_q13 => k_asm); (case kK_q13 => first | exact rfl | assumption); (case ks_q13 => k_subL); (case h1_q13 => assumption); (case h2_q13 => assumption); (case h0_q13 => assumption); (case kd_q13 => ktr_room); (case ku_q13 => ktr_units); k_whole); intro r9 new9 h9 tk9 P9 F9 N9 D9; obtain ⟨a9, t9, sp9, u9, v9, e9, e9x, P9, P9x⟩ := P9; subst e9 e9x; (simp only [List.cons_append, List.nil_append] at N9); (simp only [OffAll, OffNew, and_true] at D9); (try dsimp only); (try k_fold)))
  unfold Ctr
  k_fill
  intro dp un gd cn cs a ccd cl outer A₀ base h₀ L m s Q E mean mg mb B F X N T hk hdp hun hret
  have N0 := N
  clear N
  have N := N0
  simp only [List.nil_append, List.cons_append] at N
  k_dflt (refine' callR ?k1 ?k2 ?k3 ?k4 ?k5 ?kA ?kF ?kK ?k6 ?k7 ?k8 ?k9 ?kB ?_ ?c2 ?c3 ?c4 ?c5; (case kA => exact rfl); (case kF => exact rfl); (case kK => assumption); (case k1 => k_asm); (case k2 => k_asm); (case k3 => k_asm); (case k4 => k_asm); (case k5 => k_asm); (case k6 => k_is); (case k7 => k_is); (case k8 => ktr_room); (case k9 => exact BindsTo.of_eq rfl); (case c5 => decide); (case kB => exact locs rfl); (case c2 => exact rfl); (case c3 => exact rfl); (case c4 => exact rfl); k_whole; intro g' L' h' hg' FG' F' N' B' X' T'; (try dsimp only); (try k_fold))
  repeat' (first | (k_unfold; (try dsimp only)) | (k_end; wrow_close) | walk1 | (dsimp only; walk1) | (leave1; walk_say "STEP leave1"; try dsimp only) | fail "no step")
  all_goals (refine' ctr_fin hret N0 ?hg ?hN ?hk [] [(_, _)] ?hm ?hs ?ho ⟨_, _, _, _, _, rfl, rfl, ?q1, ?q2⟩; (case hg => assumption); (case hN => assumption); (case hk => assumption); (case hm => rfl); (case hs => k_subL); (case ho => simp only [List.forall_mem_cons, List.nil_append, List.cons_append, List.not_mem_nil, false_implies, implies_true, and_true, true_and] <;> (repeat' (first | apply And.intro | k_ne))); (case q1 => (refine' due_all ?za ?zb; (case za => assumption); (case zb => assumption))); (case q2 => (refine' due_some ?zc ?ze; (case zc => assumption); (case ze => assumption))))
end Mine
end
section
open PySem PySem.W PyProof.Rows
set_option maxRecDepth 100000
set_option maxHeartbeats 1000000
namespace Mine
/-- the period of a space, not doubled; the longest of those asked -/
def per0 (b dl : Int) (x : Str) : Int := b + (if x = sA then dl else 0)
def longest (b dl : Int) (l : Ask) : Int := b + (if sA ∈ l.map (·.1) then dl else 0)
def updA (l : Ask) (x : Str) (t : Int) (u : Tok) : Ask := l.map fun e => if e.1 = x then (e.1, t, u) else e
theorem updA_keys (l : Ask) (x t u) : (updA l x t u).map (·.1) = l.map (·.1) := by
  unfold updA
  rw [List.map_map]
  refine List.map_congr_left fun e _ => ?_
  show (if e.1 = x then (e.1, t, u) else e).1 = e.1
  split <;> rfl
theorem mem_updA {l : Ask} {x t u e'} (h : e' ∈ updA l x t u) : (e'.1 = x ∧ e'.2.1 = t) ∨ (e' ∈ l ∧ e'.1 ≠ x) := by
  obtain ⟨e, he, rfl⟩ := List.mem_map.mp h
  by_cases q : e.1 = x
  · left; simp [q]
  · right; simp [q, he]
theorem updA_mem {l : Ask} {e} (h : e ∈ l) (t u) : (e.1, t, u) ∈ updA l e.1 t u := List.mem_map.mpr ⟨e, h, by simp⟩
theorem per0_ge {b dl : Int} (hd : 0 ≤ dl) (x) : b ≤ per0 b dl x := by unfold per0; split <;> omega
theorem per0_le {b dl : Int} (hd : 0 ≤ dl) {l : Ask} {e} (h : e ∈ l) : per0 b dl e.1 ≤ longest b dl l := by
  unfold per0 longest
  split
  · rename_i q
    rw [if_pos (by rw [← q]; exact List.mem_map_of_mem h)]; exact Int.le_refl _
  · split <;> omega
theorem per0_le' {b dl : Int} (hd : 0 ≤ dl) (x) : per0 b dl x ≤ b + dl := by unfold per0; split <;> omega

def lastT (T : List (Int × Str)) : Int := (T.getLast?.map (·.1)).getD 0
theorem lastT_snoc (T : List (Int × Str)) (t sp) : lastT (T ++ [(t, sp)]) = t := by simp [lastT]

structure PInv (l0 l : Ask) (b dl : Int) (T : List (Int × Str)) : Prop where
  keys : l.map (·.1) = l0.map (·.1)
  zero : T = [] → l = l0
  le : T ≠ [] → ∀ e ∈ l, e.2.1 ≤ lastT T
  last : T ≠ [] → ∃ e ∈ l, e.2.1 = lastT T
  next : T ≠ [] → ∀ e ∈ l, lastT T + b * 2 ^ (T.length - 1) ≤ e.2.1 + per0 b dl e.1 * 2 ^ T.length
  first : T ≠ [] → minT l0 + b * 2 ^ (T.length - 1) ≤ lastT T
  gaps : ∀ i (h : i + 1 < T.length), b * 2 ^ i ≤ (T[i + 1]).1 - (T[i]).1 ∧ (T[i + 1]).1 - (T[i]).1 ≤ longest b dl l0 * 2 ^ (i + 1)
  head : ∀ (h : 0 < T.length), minT l0 + b ≤ (T[0]).1
  names : ∀ e ∈ T, e.2 ∈ l0.map (·.1)
  single : ∀ x a u, l0 = [(x, a, u)] → (∀ i (h : i < T.length), T[i] = (a + per0 b dl x * (2 ^ i * 2 - 1), x)) ∧ ∃ u', l = [(x, a + per0 b dl x * (2 ^ T.length - 1), u')]

theorem PInv.start {l0 : Ask} {b dl : Int} : PInv l0 l0 b dl [] where
  keys := rfl
  zero := fun _ => rfl
  le := fun h => absurd rfl h
  last := fun h => absurd rfl h
  next := fun h => absurd rfl h
  first := fun h => absurd rfl h
  gaps := fun i h => absurd h (by simp)
  head := fun h => absurd h (by simp)
  names := fun _ h => nomatch h
  single := fun x a u e => ⟨fun i h => absurd h (by simp), u, by simp [e]⟩

theorem pow_pos2 (n : Nat) : (0 : Int) < 2 ^ n := Int.pow_pos (by decide)
theorem pow_succ2 (n : Nat) : (2 : Int) ^ (n + 1) = 2 * 2 ^ n := by rw [Int.pow_succ, Int.mul_comm]
theorem pow_le_mul {a b : Int} (n : Nat) (h : a ≤ b) : a * 2 ^ n ≤ b * 2 ^ n := Int.mul_le_mul_of_nonneg_right h (Int.le_of_lt (pow_pos2 n))

theorem PInv.max_lt {l0 l : Ask} {b dl now : Int} {T : List (Int × Str)} (I : PInv l0 l b dl T) (ok : AskOk l0 now b) (hb : 0 < b) (hd : 0 ≤ dl) (hne : l ≠ []) {t : Int}
    (h2 : ∃ e ∈ l, t = e.2.1 + per0 b dl e.1 * 2 ^ T.length) : maxT l < t := by
  obtain ⟨e, he, rfl⟩ := h2
  obtain ⟨f, hf, hm⟩ := maxT_mem hne
  rw [← hm]
  by_cases hT : T = []
  · have hl := I.zero hT
    subst hl hT
    have h1 := ok.hi f hf
    have h3 := ok.lo e he
    have h4 := per0_ge (b := b) hd e.1
    have h5 : per0 b dl e.1 * 2 ^ ([] : List (Int × Str)).length = per0 b dl e.1 := by simp
    rw [h5]
    omega
  · have h1 := I.le hT f hf
    have h3 := I.next hT e he
    have h4 : 0 < b * 2 ^ (T.length - 1) := Int.mul_pos hb (pow_pos2 _)
    omega

theorem PInv.step {l0 l : Ask} {b dl now : Int} {T : List (Int × Str)} (I : PInv l0 l b dl T) (ok : AskOk l0 now b) (hb : 0 < b) (hd : 0 ≤ dl) (hne : l ≠ []) {t : Int} {sp : Str} {u : Tok}
    (h1 : ∀ e ∈ l, t ≤ e.2.1 + per0 b dl e.1 * 2 ^ T.length) (h2 : ∃ e ∈ l, sp = e.1 ∧ t = e.2.1 + per0 b dl e.1 * 2 ^ T.length) :
    PInv l0 (updA l sp t u) b dl (T ++ [(t, sp)]) := by
  have hlt := I.max_lt ok hb hd hne (by obtain ⟨e, he, _, ht⟩ := h2; exact ⟨e, he, ht⟩)
  obtain ⟨e0, he0, hsp, ht⟩ := h2
  have hlen : (T ++ [(t, sp)]).length = T.length + 1 := by simp
  have hP : b * 2 ^ T.length ≤ per0 b dl e0.1 * 2 ^ T.length := pow_le_mul _ (per0_ge hd _)
  have hg : 0 < b * 2 ^ T.length := Int.mul_pos hb (pow_pos2 _)
  have hpre : T ≠ [] → b * 2 ^ T.length = 2 * (b * 2 ^ (T.length - 1)) := fun hT => by
    have : T.length = (T.length - 1) + 1 := by have := List.length_pos_iff.mpr hT; omega
    rw [this, pow_succ2]
    simp only [Nat.add_sub_cancel]
    rw [Int.mul_left_comm]
  have hfirst : minT l0 + b * 2 ^ T.length ≤ t := by
    by_cases hT : T = []
    · have hl := I.zero hT
      subst hl hT
      have := minT_le he0
      simp at hP ht ⊢
      omega
    · have a1 := I.first hT
      have a2 := I.next hT e0 he0
      have a3 := hpre hT
      omega
  refine ⟨(updA_keys ..).trans I.keys, fun h => by simp at h, fun _ e he => ?_, fun _ => ?_, fun _ e he => ?_, fun _ => ?_, fun i h => ?_, fun h => ?_, fun e he => ?_, fun x a u0 e => ?_⟩
  · rw [lastT_snoc]
    rcases mem_updA he with ⟨_, q⟩ | ⟨q, _⟩
    · omega
    · have := le_maxT q; omega
  · rw [lastT_snoc]
    exact ⟨_, hsp ▸ updA_mem he0 t u, rfl⟩
  · rw [lastT_snoc, hlen, Nat.add_sub_cancel, pow_succ2]
    rcases mem_updA he with ⟨_, q⟩ | ⟨q, _⟩
    · have a1 : b * 2 ^ T.length ≤ per0 b dl e.1 * 2 ^ T.length := pow_le_mul _ (per0_ge hd _)
      rw [Int.mul_left_comm]
      omega
    · have a1 : b * 2 ^ T.length ≤ per0 b dl e.1 * 2 ^ T.length := pow_le_mul _ (per0_ge hd _)
      have a2 := h1 e q
      rw [Int.mul_left_comm]
      omega
  · rw [lastT_snoc, hlen, Nat.add_sub_cancel]
    exact hfirst
  · rw [hlen] at h
    by_cases q : i + 1 < T.length
    · rw [List.getElem_append_left q, List.getElem_append_left (by omega)]
      exact I.gaps i q
    · have hi : i + 1 = T.length := by omega
      have hT : T ≠ [] := by intro e; subst e; simp at hi
      have e1 : (T ++ [(t, sp)])[i + 1]'(by rw [hlen]; omega) = (t, sp) := by
        rw [List.getElem_append_right (by omega)]; simp [hi]
      have e2 : (T ++ [(t, sp)])[i]'(by rw [hlen]; omega) = T[i]'(by omega) := List.getElem_append_left (by omega)
      have e3 : lastT T = (T[i]'(by omega)).1 := by
        unfold lastT
        rw [List.getLast?_eq_getElem?]
        have : T.length - 1 = i := by omega
        rw [this, List.getElem?_eq_getElem (by omega)]
        rfl
      rw [e1, e2, ← e3]
      have hi' : T.length - 1 = i := by omega
      have a2 := I.next hT e0 he0
      rw [hi'] at a2
      refine ⟨by show b * 2 ^ i ≤ t - lastT T; omega, ?_⟩
      obtain ⟨f, hf, hfl⟩ := I.last hT
      have a3 := h1 f hf
      have a4 : per0 b dl f.1 * 2 ^ T.length ≤ longest b dl l0 * 2 ^ T.length := by
        refine pow_le_mul _ ?_
        have : longest b dl l0 = longest b dl l := by unfold longest; rw [I.keys]
        rw [this]
        exact per0_le hd hf
      rw [hi]
      show t - lastT T ≤ _
      omega
  · by_cases hT : T = []
    · subst hT
      simp at hfirst ⊢
      exact hfirst
    · have : 0 < T.length := List.length_pos_iff.mpr hT
      rw [List.getElem_append_left this]
      exact I.head this
  · rcases List.mem_append.mp he with he | he
    · exact I.names e he
    · rw [List.mem_singleton.mp he, hsp, ← I.keys]
      exact List.mem_map_of_mem he0
  · obtain ⟨s1, u', s2⟩ := I.single x a u0 e
    subst s2
    have hx : e0 = (x, a + per0 b dl x * (2 ^ T.length - 1), u') := by simpa using he0
    subst hx
    have ht' : t = a + per0 b dl x * (2 ^ T.length * 2 - 1) := by
      rw [ht]
      show a + per0 b dl x * (2 ^ T.length - 1) + per0 b dl x * 2 ^ T.length = _
      rw [Int.mul_sub, Int.mul_sub, ← Int.mul_assoc, Int.mul_one]
      omega
    refine ⟨fun i h => ?_, u, ?_⟩
    · rw [hlen] at h
      by_cases q : i < T.length
      · rw [List.getElem_append_left q]; exact s1 i q
      · have hi : i = T.length := by omega
        subst hi
        simp [ht', hsp]
    · have hx : x = sp := by rw [hsp]
      subst hx
      simp only [updA, List.map_cons, List.map_nil, if_true]
      rw [hlen, pow_succ2, Int.mul_comm 2, ht']
end Mine
end
section
open PySem PySem.W PyProof.Rows
set_option maxRecDepth 100000
set_option maxHeartbeats 1000000
namespace Mine
open PySem.Spec PySem.Calls
theorem perOf_eq (b dl : Int) (n : Nat) (x : Str) : perOf b dl (n : Int) x = per0 b dl x * 2 ^ n := rfl
abbrev TE := Addr × Int × Tok × Str × Tok
def teObj (e : TE) : Addr × Obj := (e.1, { cls := .type "tuple", data := .seq #[.int e.2.1 e.2.2.1, .str e.2.2.2.1 e.2.2.2.2] })
def teVal (e : TE) : Int × Str := (e.2.1, e.2.2.2.1)
abbrev toldObj (TT : List TE) (n : Nat) : Obj := { cls := .type "list", data := .seq (TT.map fun e => Value.ref e.1).toArray n }
/-- a time that was told is ahead of the end by silence -/
def AllOn (ow pe pw si : Int) (T : List (Int × Str)) : Prop := ∀ e ∈ T, overAt ow pe pw si e.1 = false

section
variable {prog : Program} {w : World} {A : Around} {E : Value → Shared → Prop} {Q : Flow → Shared → Prop} {s : Shared} {env : Env} {h₀ : Heap} {L : Addr}

/-- where the loop of the probes stands -/
structure At (w : World) (h₀ : Heap) (L : Addr) (m₀ : Str → Option Value) (fx : List (Addr × Obj)) (tl td dx : Addr) (l0 : Ask) (b dl ow pe pw si : Int) (stop : Nat) (TT : List TE) (h : Heap) : Prop where
  room : TT.length ≤ stop
  on : AllOn ow pe pw si (TT.map teVal)
  off : ∀ p ∈ TT.map teObj, p.1 ≠ td ∧ p.1 ≠ tl ∧ p.1 ≠ dx
  rest : ∃ (m : Str → Option Value) (l : Ask) (o : Obj) (e : Nat), PInv l0 l b dl (TT.map teVal) ∧ o.IsDictOf (PySem.strKind PySem.Challenge.rw_sj0109_01.row.prog w) (kv l) ∧
    (∀ y, y ≠ Str.ofString "due" → y ≠ Str.ofString "time" → y ≠ Str.ofString "space" → y ≠ Str.ofString "kind" → m y = m₀ y) ∧ Fr h₀ L h m ∧ News h₀ L h ((tl, toldObj TT e) :: (td, o) :: (fx ++ TT.map teObj))

def LoopPost (w : World) (h₀ : Heap) (L : Addr) (m₀ : Str → Option Value) (fx : List (Addr × Obj)) (tl td dx : Addr) (l0 : Ask) (b dl ow pe pw si : Int) (stop n : Nat) (s : Shared) (Q : Flow → Shared → Prop) (f : Flow) (s₃ : Shared) : Prop :=
  match f with
  | .ret v => Q (.ret v) s₃
  | .brk => Q .next s₃
  | _ => ∃ TT h' tk, s₃ = { s with heap := h', toks := tk } ∧ TT.length = n + 1 ∧ At w h₀ L m₀ fx tl td dx l0 b dl ow pe pw si stop TT h'

theorem m_form {m m₀ : Str → Option Value} (h : ∀ y, y ≠ Str.ofString "due" → y ≠ Str.ofString "time" → y ≠ Str.ofString "space" → y ≠ Str.ofString "kind" → m y = m₀ y) :
    m = fun y => if y = Str.ofString "due" then m (Str.ofString "due") else if y = Str.ofString "time" then m (Str.ofString "time") else if y = Str.ofString "space" then m (Str.ofString "space") else if y = Str.ofString "kind" then m (Str.ofString "kind") else m₀ y := by
  funext y
  by_cases h1 : y = Str.ofString "due"
  · rw [if_pos h1, h1]
  · rw [if_neg h1]
    by_cases h2 : y = Str.ofString "time"
    · rw [if_pos h2, h2]
    · rw [if_neg h2]
      by_cases h3 : y = Str.ofString "space"
      · rw [if_pos h3, h3]
      · rw [if_neg h3]
        by_cases h4 : y = Str.ofString "kind"
        · rw [if_pos h4, h4]
        · rw [if_neg h4]; exact h y h1 h2 h3 h4

theorem probes_loop {w : World} {A : Around} {E : Value → Shared → Prop} {Q : Flow → Shared → Prop} {s : Shared} {env : Env} {h₀ : Heap} {L : Addr} {test : Expr} {body : List Stmt} {pos : Pos} {m₀ : Str → Option Value} {fx : List (Addr × Obj)} {tl td dx : Addr} {l0 : Ask} {b dl ow pe pw si : Int} {o0 : Obj} (stop : Nat)
    (F : Fr h₀ L s.heap m₀) (_htd : m₀ (Str.ofString "times") = some (.ref td)) (_htl : m₀ (Str.ofString "told") = some (.ref tl)) (N : News h₀ L s.heap ((tl, { cls := .type "list", data := .seq (List.toArray []) }) :: (td, o0) :: fx)) (hd : o0.IsDictOf (PySem.strKind PySem.Challenge.rw_sj0109_01.row.prog w) (kv l0))
    (turn : ∀ (u1 u2 u3 u4 : Option Value) (TT : List TE) (l : Ask) (o : Obj) (e : Nat) h tk, PInv l0 l b dl (TT.map teVal) → o.IsDictOf (PySem.strKind PySem.Challenge.rw_sj0109_01.row.prog w) (kv l) → AllOn ow pe pw si (TT.map teVal) → TT.length ≤ stop →
      (∀ p ∈ TT.map teObj, p.1 ≠ td) → (∀ p ∈ TT.map teObj, p.1 ≠ tl) → (∀ p ∈ TT.map teObj, p.1 ≠ dx) →
      Fr h₀ L h (fun y => if y = Str.ofString "due" then u1 else if y = Str.ofString "time" then u2 else if y = Str.ofString "space" then u3 else if y = Str.ofString "kind" then u4 else m₀ y) →
      News h₀ L h ((tl, toldObj TT e) :: (td, o) :: (fx ++ TT.map teObj)) →
      wpAny (model PySem.Challenge.rw_sj0109_01.row.prog w) A (isTrue test env (eval test env)) (fun bb s₂ =>
        if bb = true then wpAny (model PySem.Challenge.rw_sj0109_01.row.prog w) A (execs body env) (LoopPost w h₀ L m₀ fx tl td dx l0 b dl ow pe pw si stop TT.length s Q) E s₂ else Q .next s₂) E { s with heap := h, toks := tk })
    (hE : PassesOwn (model PySem.Challenge.rw_sj0109_01.row.prog w) A env E := by passes_own) :
    wpAny (model PySem.Challenge.rw_sj0109_01.row.prog w) A (exec (.While test body [] pos) env) Q E s := by
  refine While_inv2 (fun n m news => ∃ (TT : List TE) (l : Ask) (o : Obj) (e : Nat), n = stop - TT.length ∧ TT.length ≤ stop ∧ AllOn ow pe pw si (TT.map teVal) ∧ (∀ p ∈ TT.map teObj, p.1 ≠ td ∧ p.1 ≠ tl ∧ p.1 ≠ dx) ∧ PInv l0 l b dl (TT.map teVal) ∧ o.IsDictOf (PySem.strKind PySem.Challenge.rw_sj0109_01.row.prog w) (kv l) ∧
    (∀ y, y ≠ Str.ofString "due" → y ≠ Str.ofString "time" → y ≠ Str.ofString "space" → y ≠ Str.ofString "kind" → m y = m₀ y) ∧ news = (tl, toldObj TT e) :: (td, o) :: (fx ++ TT.map teObj)) F (news := (tl, toldObj [] 0) :: (td, o0) :: (fx ++ [])) (by rw [List.append_nil]; exact N)
    ⟨[], l0, o0, 0, rfl, Nat.zero_le _, (fun _ h => nomatch h), (fun _ h => nomatch h), PInv.start, hd, (fun _ _ _ _ _ => rfl), rfl⟩ ?_ hE
  rintro n m₁ news₁ h₁ tk₁ F₁ N₁ ⟨TT, l, o, e, rfl, hr, hon, hoff, hI, hd', hm, rfl⟩
  rw [m_form hm] at F₁
  refine wpAny_mono (turn _ _ _ _ TT l o e h₁ tk₁ hI hd' hon hr (fun p hp => (hoff p hp).1) (fun p hp => (hoff p hp).2.1) (fun p hp => (hoff p hp).2.2) F₁ N₁) (fun bb s₂ h₂ => ?_) fun _ _ x => x
  cases bb with
  | false => simpa using h₂
  | true =>
    simp only [if_true] at h₂ ⊢
    refine wpAny_mono h₂ (fun f s₃ q => ?_) fun _ _ x => x
    have key : (∃ TT' h' tk, s₃ = { s with heap := h', toks := tk } ∧ TT'.length = TT.length + 1 ∧ At w h₀ L m₀ fx tl td dx l0 b dl ow pe pw si stop TT' h') → WhileStep2 h₀ L s (fun n m news => ∃ (TT : List TE) (l : Ask) (o : Obj) (e : Nat), n = stop - TT.length ∧ TT.length ≤ stop ∧ AllOn ow pe pw si (TT.map teVal) ∧ (∀ p ∈ TT.map teObj, p.1 ≠ td ∧ p.1 ≠ tl ∧ p.1 ≠ dx) ∧ PInv l0 l b dl (TT.map teVal) ∧ o.IsDictOf (PySem.strKind PySem.Challenge.rw_sj0109_01.row.prog w) (kv l) ∧
        (∀ y, y ≠ Str.ofString "due" → y ≠ Str.ofString "time" → y ≠ Str.ofString "space" → y ≠ Str.ofString "kind" → m y = m₀ y) ∧ news = (tl, toldObj TT e) :: (td, o) :: (fx ++ TT.map teObj)) Q (stop - TT.length) .next s₃ := by
      rintro ⟨TT', h', tk, rfl, hl, X⟩
      obtain ⟨m', l', o', e', hI', hd'', hm', F', N'⟩ := X.rest
      have := X.room
      exact ⟨h', tk, m', _, stop - TT'.length, rfl, F', N', by omega, TT', l', o', e', rfl, X.room, X.on, X.off, hI', hd'', hm', rfl⟩
    cases f with
    | ret v => exact q
    | brk => exact q
    | next => exact key q
    | cont => exact key q
end
theorem len_told {prog : Program} {w : World} {A : Around} {E : Value → Shared → Prop} {s : Shared} {h₀ : Heap} {L tl : Addr} {news : List (Addr × Obj)} {Q : Value → Shared → Prop} {TT : List TE} {n : Nat} (N : News h₀ L s.heap news) (hm : (tl, toldObj TT n) ∈ news) (h9 : TT.length ≤ 9)
    (h : Q (.int TT.length (s.toks + 1)) { s with toks := s.toks + 1 + 1 }) : wpAny (model prog w) A (call (.builtin "len") [.ref tl]) Q E s := by
  have e : ((TT.map fun e => Value.ref e.1).toArray).size = TT.length := by simp
  exact call_len_list ⟨_, (N _ hm).1, rfl, _, rfl⟩ (by rw [e]; omega) (by rw [e]; exact h)
theorem due_facts {l0 l : Ask} {b dl now c : Int} {T : List (Int × Str)} {t : Int} {sp : Str} (I : PInv l0 l b dl T) (ok : AskOk l0 now b) (hb : 0 < b) (hd : 0 ≤ dl) (hne : l ≠ []) (hc : c = (T.length : Int))
    (h1 : ∀ e ∈ l, t ≤ e.2.1 + perOf b dl c e.1) (h2 : ∃ e ∈ l, sp = e.1 ∧ t = e.2.1 + perOf b dl c e.1) : maxT l < t ∧ sp ∈ l.map (·.1) ∧ ∀ u, PInv l0 (updA l sp t u) b dl (T ++ [(t, sp)]) := by
  subst hc
  simp only [perOf_eq] at h1 h2
  refine ⟨?_, ?_, fun u => I.step ok hb hd hne h1 h2⟩
  · obtain ⟨e, he, _, ht⟩ := h2
    exact I.max_lt ok hb hd hne ⟨e, he, ht⟩
  · obtain ⟨e, he, rfl, _⟩ := h2
    exact List.mem_map_of_mem he
end Mine
end
section
open PySem PySem.W PyProof.Rows
set_option maxRecDepth 100000
set_option maxHeartbeats 1000000
namespace Mine
open PySem.Spec PySem.Calls
/-- what is told of the probes of one bout -/
structure ToldOk (l0 : Ask) (b dl ow pe : Int) (stop : Nat) (T : List (Int × Str)) : Prop where
  len : T.length ≤ stop
  inv : ∃ l, PInv l0 l b dl T
  never : waitOf ow pe (b + dl) = none → T.length = stop
  ends : ∀ v, waitOf ow pe (b + dl) = some v → (∀ e ∈ T, e.1 < minT l0 + v) ∧ (0 < stop → T ≠ []) ∧ ∀ x a u, l0 = [(x, a, u)] → T.length = stop ∨ minT l0 + v ≤ a + per0 b dl x * (2 ^ T.length * 2 - 1)
theorem wait_ge {ow pe pw v : Int} (h : waitOf ow pe pw = some v) : 3 * pw ≤ v := by
  unfold waitOf at h
  split at h
  · split at h <;> (cases h; omega)
  · split at h
    · cases h; omega
    · cases h
theorem not_over {ow pe pw si t v : Int} (h : overAt ow pe pw si t = false) (hw : waitOf ow pe pw = some v) : t < si + v := by
  unfold overAt at h
  rw [hw] at h
  have := of_decide_eq_false h
  omega
theorem exitA {l0 l : Ask} {b dl ow pe pw : Int} {stop : Nat} {T : List (Int × Str)} (I : PInv l0 l b dl T) (hon : AllOn ow pe pw (minT l0) T) (hpw : pw = b + dl) (hl : T.length = stop) : ToldOk l0 b dl ow pe stop T := by
  subst hpw
  refine ⟨Nat.le_of_eq hl, ⟨l, I⟩, fun _ => hl, fun v hv => ⟨fun e he => not_over (hon e he) hv, fun h0 hT => ?_, fun _ _ _ _ => .inl hl⟩⟩
  rw [hT] at hl
  simp at hl
  omega
theorem exitB {l0 l : Ask} {b dl ow pe pw c t : Int} {sp : Str} {stop : Nat} {T : List (Int × Str)} (I : PInv l0 l b dl T) (hon : AllOn ow pe pw (minT l0) T) (hpw : pw = b + dl) (hc : c = (T.length : Int)) (hb : 0 < b) (hd : 0 ≤ dl) (hne : l0 ≠ []) (hl : T.length ≤ stop)
    (h1 : ∀ e ∈ l, t ≤ e.2.1 + perOf b dl c e.1) (h2 : ∃ e ∈ l, sp = e.1 ∧ t = e.2.1 + perOf b dl c e.1) (ho : overAt ow pe pw (minT l0) t = true) : ToldOk l0 b dl ow pe stop T := by
  subst hpw hc
  simp only [perOf_eq] at h1 h2
  unfold overAt at ho
  split at ho
  · cases ho
  · rename_i v hv
    have ht := of_decide_eq_true ho
    refine ⟨hl, ⟨l, I⟩, fun h => (by rw [hv] at h; cases h), fun v' hv' => ?_⟩
    rw [hv] at hv'
    cases hv'
    refine ⟨fun e he => not_over (hon e he) hv, fun _ hT => ?_, fun x a u e => .inr ?_⟩
    · have hl0 := I.zero hT
      subst hl0 hT
      obtain ⟨e, he, hm⟩ := minT_mem hne
      have a1 := h1 e he
      have a2 := wait_ge hv
      have a3 := per0_le' (b := b) hd e.1
      simp at a1
      omega
    · obtain ⟨_, u', s2⟩ := I.single x a u e
      subst s2
      obtain ⟨f, hf, _, hft⟩ := h2
      have hx : f = (x, a + per0 b dl x * (2 ^ T.length - 1), u') := by simpa using hf
      subst hx
      have : t = a + per0 b dl x * (2 ^ T.length * 2 - 1) := by
        rw [hft]
        show a + per0 b dl x * (2 ^ T.length - 1) + per0 b dl x * 2 ^ T.length = _
        rw [Int.mul_sub, Int.mul_sub, ← Int.mul_assoc, Int.mul_one]
        omega
      omega

section
variable {w : World} {s : Shared} {g h' : Heap} {L' : Addr} {Q : Flow → Shared → Prop} {m₀ m' : Str → Option Value} {fx stuff : List (Addr × Obj)} {tl td dx a : Addr} {l0 l : Ask} {b dl ow pe pw si t : Int} {stop tk eT : Nat} {TT : List TE} {o' : Obj} {sp : Str} {k1 k2 u : Tok}
theorem loop_end (F : Fr g L' h' m') (N : News g L' h' stuff) (hm : ∀ y, y ≠ Str.ofString "due" → y ≠ Str.ofString "time" → y ≠ Str.ofString "space" → y ≠ Str.ofString "kind" → m' y = m₀ y)
    (ha : (a, ({ cls := .type "tuple", data := .seq #[.int t k1, .str sp k2] } : Obj)) ∈ stuff) (ht : (tl, listOf ((TT.map fun e => Value.ref e.1).toArray.push (.ref a)) (eT + 1)) ∈ stuff) (htd : (td, o') ∈ stuff)
    (hd : o'.IsDictOf (PySem.strKind PySem.Challenge.rw_sj0109_01.row.prog w) (kv (l.map fun e => if e.1 = sp then (e.1, t, u) else e))) (hfx : ∀ p ∈ fx, p ∈ stuff) (hTT : ∀ p ∈ TT.map teObj, p ∈ stuff)
    (h1 : ∀ p ∈ TT.map teObj, p.1 ≠ td) (h2 : ∀ p ∈ TT.map teObj, p.1 ≠ tl) (h3 : ∀ p ∈ TT.map teObj, p.1 ≠ dx) (n1 : a ≠ td) (n2 : a ≠ tl) (n3 : a ≠ dx)
    (I : ∀ u, PInv l0 (updA l sp t u) b dl (TT.map teVal ++ [(t, sp)])) (hon : AllOn ow pe pw si (TT.map teVal)) (hov : overAt ow pe pw si t = false) (hlt : (TT.length : Int) < (stop : Int)) :
    LoopPost w g L' m₀ fx tl td dx l0 b dl ow pe pw si stop TT.length s Q .next { s with heap := h', toks := tk } := by
  refine ⟨TT ++ [(a, t, k1, sp, k2)], h', tk, rfl, by simp, ?_⟩
  have ev : (TT ++ [(a, t, k1, sp, k2)]).map teVal = TT.map teVal ++ [(t, sp)] := by simp [teVal]
  have eo : (TT ++ [(a, t, k1, sp, k2)]).map teObj = TT.map teObj ++ [(a, { cls := .type "tuple", data := .seq #[.int t k1, .str sp k2] })] := by simp [teObj]
  refine ⟨by simp; omega, ?_, ?_, m', updA l sp t u, o', eT + 1, ?_, hd, hm, F, ?_⟩
  · rw [ev]
    intro e he
    rcases List.mem_append.mp he with he | he
    · exact hon e he
    · rw [List.mem_singleton.mp he]; exact hov
  · rw [eo]
    intro p hp
    rcases List.mem_append.mp hp with hp | hp
    · exact ⟨h1 p hp, h2 p hp, h3 p hp⟩
    · rw [List.mem_singleton.mp hp]; exact ⟨n1, n2, n3⟩
  · rw [ev]; exact I u
  · intro p hp
    refine N p ?_
    have et : toldObj (TT ++ [(a, t, k1, sp, k2)]) (eT + 1) = listOf ((TT.map fun e => Value.ref e.1).toArray.push (.ref a)) (eT + 1) := by
      simp [toldObj, W.listOf]
    rw [et, eo] at hp
    rcases List.mem_cons.mp hp with rfl | hp
    · exact ht
    · rcases List.mem_cons.mp hp with rfl | hp
      · exact htd
      · rcases List.mem_append.mp hp with hp | hp
        · exact hfx p hp
        · rcases List.mem_append.mp hp with hp | hp
          · exact hTT p hp
          · rw [List.mem_singleton.mp hp]; exact ha
end

theorem dict_cls {prog : Program} {w : World} {KK : Type} [DecidableEq KK] {knd : KeyKind prog w KK} {o : Obj} {kvs : List (KK × Value)} (h : o.IsDictOf knd kvs) : o.cls ≠ .type "tuple" := by
  have : o.cls = .type "dict" := by
    obtain ⟨_, _, hx, _⟩ := h
    exact hx.1
  rw [this]
  intro e
  exact absurd (Value.type.inj e) (by decide)
section
variable {mt ro mt' new stuff : List (Addr × Obj)} {s : Shared} {g h' : Heap} {L' : Addr} {Post : Value → List (Addr × Obj) → List (Addr × Obj) → Prop} {Q : Value → Shared → Prop} {r : Value} {tk' : Nat}
theorem told_fin {dx x d tl : Addr} {D D' X o : Obj} {TT : List TE} {e : Nat}
    (hret : ∀ r mt' new h' tk', Post r mt' new → mt'.map (·.1) = [(dx, D)].map (·.1) → (∀ b o, s.heap.get? b = some o → b ∉ [(dx, D)].map (·.1) → h'.get? b = some o) → (∀ p ∈ mt', h'.get? p.1 = some p.2) → (∀ p ∈ new, h'.get? p.1 = some p.2 ∧ s.heap.get? p.1 = none) →
      Q r { s with heap := h', toks := tk' }) {h₀ : Heap} {L : Addr} (N0 : News h₀ L s.heap ([(dx, D)] ++ [(x, X), (d, o)])) (hg : g = hideAll s.heap (([(dx, D)] ++ [(x, X), (d, o)]).map (·.1))) (N : News g L' h' stuff) (hk : KeepG g h')
    (h1 : (dx, D') ∈ stuff) (h2 : (tl, toldObj TT e) ∈ stuff) (h3 : ∀ p ∈ TT.map teObj, p ∈ stuff) (h4 : (x, X) ∈ stuff) (h5 : (d, o) ∈ stuff) (hof : ∀ p ∈ TT.map teObj, p.1 ≠ dx) (n1 : dx ≠ tl) (n2 : x ≠ tl) (n3 : d ≠ tl)
    (c1 : X.cls ≠ .type "tuple") (c2 : o.cls ≠ .type "tuple") (P : Post r [(dx, D')] ((tl, toldObj TT e) :: TT.map teObj)) : Q r { s with heap := h', toks := tk' } := by
  have off : ∀ p ∈ TT.map teObj, ∀ q ∈ stuff, q.2.cls ≠ .type "tuple" → q.1 ≠ p.1 := fun p hp q hq hc e => by
    have a1 := (N p (h3 p hp)).1
    have a2 := (N q hq).1
    rw [e, a1] at a2
    obtain ⟨f, _, rfl⟩ := List.mem_map.mp hp
    exact hc (by rw [← Option.some.inj a2]; rfl)
  refine hret r [(dx, D')] _ h' tk' P rfl (fun b o' e hb => ?_) (fun p hp => ?_) (fun p hp => ?_)
  · by_cases hr : b ∈ [(x, X), (d, o)].map (·.1)
    · obtain ⟨q, hq, rfl⟩ := List.mem_map.mp hr
      have e1 := (N0 q (List.mem_append_right _ hq)).1
      rw [e1] at e
      cases e
      rcases List.mem_cons.mp hq with rfl | hq
      · exact (N _ h4).1
      · rw [List.mem_singleton.mp hq]; exact (N _ h5).1
    · refine hk b o' ?_
      rw [hg]
      refine hideAll_get _ e fun q => ?_
      rw [List.map_append] at q
      exact (List.mem_append.mp q).elim hb hr
  · rw [List.mem_singleton.mp hp]; exact (N _ h1).1
  · have hin : p ∈ stuff := by
      rcases List.mem_cons.mp hp with rfl | hp
      · exact h2
      · exact h3 p hp
    have e := N p hin
    refine ⟨e.1, ?_⟩
    cases q : s.heap.get? p.1 with
    | none => rfl
    | some o' =>
      have := e.2.2
      rw [hg, hideAll_get _ q (fun z => ?_)] at this
      · cases this
      · obtain ⟨y, hy, hz⟩ := List.mem_map.mp z
        rcases List.mem_cons.mp hp with rfl | hp
        · rcases List.mem_cons.mp hy with rfl | hy
          · exact n1 hz
          · rcases List.mem_cons.mp hy with rfl | hy
            · exact n2 hz
            · rw [List.mem_singleton.mp hy] at hz; exact n3 hz
        · rcases List.mem_cons.mp hy with rfl | hy
          · exact hof p hp hz.symm
          · rcases List.mem_cons.mp hy with rfl | hy
            · exact off p hp _ h4 c1 hz
            · rw [List.mem_singleton.mp hy] at hz; exact off p hp _ h5 c2 hz
end
end Mine
end
section
open PySem PySem.W PyProof.Rows
set_option maxRecDepth 100000
set_option maxHeartbeats 1000000
namespace Mine
open PySem.Spec PySem.Calls
abbrev te0 : TE := (0, 0, 0, sI, 0)
theorem getD_te {TT : List TE} {i : Nat} (h : i < TT.length) : TT.getD i te0 ∈ TT := by
  rw [List.getD_eq_getElem?_getD, List.getElem?_eq_getElem h]; exact List.getElem_mem h
def teDat (e : TE) : Dat := .tuple [.int e.2.1, .str e.2.2.2.1]
theorem dat_told {news : List (Addr × Obj)} : ∀ {TT : List TE}, (∀ p ∈ TT.map teObj, p ∈ news) → DatAll news (TT.map fun e => Value.ref e.1) (TT.map teDat)
  | [], _ => .nil
  | e :: r, h => .cons (.tuple (vs := [.int e.2.1 e.2.2.1, .str e.2.2.2.1 e.2.2.2.2]) (n := 0) (h _ (.head _)) (.cons (.int _ _) (.cons (.str _ _) .nil))) (dat_told fun p hp => h p (.tail _ hp))
theorem dat_ok {TT : List TE} (h : ∀ e ∈ TT, PyData.strOk e.2.2.2.1 = true) : ∀ d ∈ TT.map teDat, kqdOk 8 d = true := by
  intro d hd
  obtain ⟨e, he, rfl⟩ := List.mem_map.mp hd
  simp [teDat, kqdOk, h e he]
theorem strOk_keys {x : Str} (h : x = sI ∨ x = sH ∨ x = sA) : PyData.strOk x = true := by
  rcases h with rfl | rfl | rfl <;> decide +kernel
theorem keys_in {l : Ask} (h : Keys7 (l.map (·.1))) {x : Str} (hx : x ∈ l.map (·.1)) : x = sI ∨ x = sH ∨ x = sA := by
  rcases h with h | h | h | h | h | h | h <;> (rw [h] at hx; simp at hx; rcases hx with rfl | rfl | rfl <;> simp)

theorem dec_iff {p : Prop} (d : Decidable p) (b : Bool) (h : b = true ↔ p) : @decide p d = b := by
  cases b with
  | true => exact decide_eq_true (h.mp rfl)
  | false => exact decide_eq_false fun z => absurd (h.mpr z) (by decide)
section
variable {prog : Program} {w : World} {A : Around} {E : Value → Shared → Prop} {s : Shared} {h₀ : Heap} {L tl nl D : Addr} {news : List (Addr × Obj)} {TT CL : List TE} {n : Nat} {Q : Value → Shared → Prop}
theorem news0 {h : Heap} {l : List (Addr × Obj)} (H : ∀ p ∈ l, h.get? p.1 = some p.2) : News { objs := #[] } h.objs.size h l := fun p hp => ⟨H p hp, Nat.ne_of_lt (Heap.lt_size (H p hp)), rfl⟩
theorem told_eq_nil {m : Str → Option Value} (F : Fr h₀ L s.heap m) (N : News h₀ L s.heap news) (ma : (tl, toldObj TT n) ∈ news) (hT : ∀ p ∈ TT.map teObj, h₀.get? p.1 = some p.2) (mb : (nl, ({ cls := .type "list", data := .seq (List.toArray []) } : Obj)) ∈ news) (hok : ∀ e ∈ TT, PyData.strOk e.2.2.2.1 = true) (hu : A.units + 64 < cLine)
    (h : Q (.bool (decide ((TT.length : Int) = 0))) s) : wpAny (model prog w) A (compareOp .Eq (.ref tl) (.ref nl)) Q E s := by
  have N2 := news0 (h := s.heap) (l := (tl, toldObj TT n) :: (nl, ({ cls := .type "list", data := .seq (List.toArray []) } : Obj)) :: TT.map teObj) (fun p hp => by
    rcases List.mem_cons.mp hp with rfl | hp
    · exact (N _ ma).1
    rcases List.mem_cons.mp hp with rfl | hp
    · exact (N _ mb).1
    exact F.keep _ _ (hT p hp))
  refine kqd_eq (n₁ := TT.map teObj) (n₂ := []) N2 (.head _) rfl rfl (dat_told fun _ h => h) (fun p h => .tail _ (.tail _ h)) (.tail _ (.head _)) rfl rfl .nil (fun _ h => nomatch h) (dat_ok hok) (fun _ h => nomatch h) hu ?_
  exact (congrArg (fun z => Q (Value.bool z) s) (dec_iff _ (decide ((TT.length : Int) = 0)) (by simp))).mpr h
theorem told_eq {m : Str → Option Value} (F : Fr h₀ L s.heap m) (N : News h₀ L s.heap news) (ma : (tl, toldObj TT n) ∈ news) (hT : ∀ p ∈ TT.map teObj, h₀.get? p.1 = some p.2) (mb : (D, LCg.lst (CL.map fun e => Value.ref e.1)) ∈ news) (hC : ∀ p ∈ CL.map teObj, p ∈ news) (hok : ∀ e ∈ TT, PyData.strOk e.2.2.2.1 = true) (hu : A.units + 64 < cLine) (heq : TT.map teVal = CL.map teVal)
    (h : Q (.bool true) s) : wpAny (model prog w) A (compareOp .Eq (.ref tl) (.ref D)) Q E s := by
  have hd : ∀ (X : List TE), X.map teDat = (X.map teVal).map fun v => Dat.tuple [.int v.1, .str v.2] := fun X => by
    rw [List.map_map]; rfl
  have e0 : TT.map teDat = CL.map teDat := by rw [hd, hd, heq]
  have N2 := news0 (h := s.heap) (l := (tl, toldObj TT n) :: (D, LCg.lst (CL.map fun e => Value.ref e.1)) :: (TT.map teObj ++ CL.map teObj)) (fun p hp => by
    rcases List.mem_cons.mp hp with rfl | hp
    · exact (N _ ma).1
    rcases List.mem_cons.mp hp with rfl | hp
    · exact (N _ mb).1
    rcases List.mem_append.mp hp with hp | hp
    · exact F.keep _ _ (hT p hp)
    · exact (N _ (hC p hp)).1)
  refine kqd_eq (n₁ := TT.map teObj) (n₂ := CL.map teObj) N2 (.head _) rfl rfl (dat_told fun _ h => h) (fun p h => .tail _ (.tail _ (List.mem_append_left _ h))) (.tail _ (.head _)) rfl rfl (dat_told fun _ h => h) (fun p h => .tail _ (.tail _ (List.mem_append_right _ h))) (dat_ok hok) (by rw [← e0]; exact dat_ok hok) hu ?_
  exact (congrArg (fun z => Q (Value.bool z) s) (dec_iff _ true (by simp [e0]))).mpr h
theorem told_item {value slice : PySem.Expr} {k : Int} {u : Tok} (N : News h₀ L s.heap news) (ma : (tl, toldObj TT n) ∈ news) (h0 : 0 ≤ k) (h1 : k < (TT.length : Int)) (h9 : TT.length ≤ 9) (h : Q (.ref (TT.getD k.toNat te0).1) s)
    (hs : subscripted slice false (.ref tl) (.int k u) = operate [.ref tl, .int k u] (getItem (.ref tl) (.int k u)) := by with_unfolding_all rfl) :
    wpAny (model prog w) A (subscriptTail value slice (.ref tl) (.int k u)) Q E s := by
  have hl : s.heap.IsList tl (TT.map fun e => Value.ref e.1).toArray := ⟨_, (N _ ma).1, rfl, _, rfl⟩
  have hk : k.toNat < TT.length := by omega
  refine tail_any hl.typeIs slot_list_getitem.lookup (wpAny_getItem_list hl h0 (by omega) (x := .ref (TT.getD k.toNat te0).1) ?_ h) hs
  simp [List.getD_eq_getElem?_getD, hk]
theorem tup_fst {m : Str → Option Value} {value slice : PySem.Expr} {i : Nat} {u : Tok} (F : Fr h₀ L s.heap m) (hT : ∀ p ∈ TT.map teObj, h₀.get? p.1 = some p.2) (hi : i < TT.length) (h : Q (.int (TT.getD i te0).2.1 (TT.getD i te0).2.2.1) s)
    (hs : subscripted slice false (.ref (TT.getD i te0).1) (.int 0 u) = operate [.ref (TT.getD i te0).1, .int 0 u] (getItem (.ref (TT.getD i te0).1) (.int 0 u)) := by with_unfolding_all rfl) :
    wpAny (model prog w) A (subscriptTail value slice (.ref (TT.getD i te0).1) (.int 0 u)) Q E s := by
  have hm := F.keep _ _ (hT _ (List.mem_map_of_mem (f := teObj) (getD_te hi)))
  have N2 := news0 (h := s.heap) (l := [teObj (TT.getD i te0)]) (fun p hp => by rw [List.mem_singleton.mp hp]; exact hm)
  exact item_tupleT (l := [.int (TT.getD i te0).2.1 (TT.getD i te0).2.2.1, .str (TT.getD i te0).2.2.2.1 (TT.getD i te0).2.2.2.2]) (News.isTup N2 (.head _)) (by decide) (by decide) (j := 0) rfl rfl h hs

variable {env : Env} {x : Str} {body : List Stmt} {QF : Flow → Shared → Prop}
def TurnR (h₀ : Heap) (L : Addr) (news own : List (Addr × Obj)) (x : Str) (m₀ : Str → Option Value) (s₁ : Shared) (Q : Flow → Shared → Prop) (f : Flow) (s₂ : Shared) : Prop :=
  match f with
  | .ret v => Q (.ret v) s₂
  | .brk => Q .next s₂
  | _ => ∃ h' tk m' all, s₂ = { s₁ with heap := h', toks := tk } ∧ Fr h₀ L h' m' ∧ News h₀ L h' all ∧ (∀ p ∈ news, p ∈ all) ∧ (∀ p ∈ own, p ∈ all) ∧ ∀ y, y ≠ x → m' y = m₀ y
theorem turnR_next {own : List (Addr × Obj)} {m₀ m' : Str → Option Value} {s₁ : Shared} {QQ : Flow → Shared → Prop} {h' : Heap} {tk : Nat} (F : Fr h₀ L h' m') (N : News h₀ L h' (news ++ own)) (hm : ∀ y, y ≠ x → m' y = m₀ y) : TurnR h₀ L news own x m₀ s₁ QQ .next { s₁ with heap := h', toks := tk } :=
  ⟨h', tk, m', _, rfl, F, N, fun _ h => List.mem_append_left _ h, fun _ h => List.mem_append_right _ h, hm⟩
theorem range_loop {r : Addr} {a₀ b₀ : Int} {t₀ u₀ v₀ : Tok} {m₀ : Str → Option Value}
    (hh : A.handled = none) (hr : IsRange s.heap r a₀ b₀ 1 t₀ u₀ v₀) (ha : -100 ≤ a₀) (ha' : a₀ ≤ 100) (hb : -100 ≤ b₀) (hb' : b₀ ≤ 100) (F : Fr h₀ env.locals s.heap m₀) (N : News h₀ env.locals s.heap news)
    (turn : ∀ k t h tk own, a₀ ≤ k → k < b₀ → Fr h₀ env.locals h (fun y => if y = x then some (.int k t) else m₀ y) → News h₀ env.locals h (news ++ own) →
      wpAny (model prog w) A (execs body env) (TurnR h₀ env.locals news own x m₀ { s with heap := h, toks := tk } QF) E { s with heap := h, toks := tk })
    (done : ∀ u h tk, Fr h₀ env.locals h (fun y => if y = x then u else m₀ y) → News h₀ env.locals h news → QF .next { s with heap := h, toks := tk }) :
    wpAny (model prog w) A (pyIter (.ref r)) (fun it s₂ => LoopAtV prog w A h₀ env x body QF E it s₂) E s := by
  have form : ∀ m : Str → Option Value, (∀ y, y ≠ x → m y = m₀ y) → m = fun y => if y = x then m x else m₀ y := fun m h => by
    funext y
    by_cases q : y = x
    · rw [if_pos q, q]
    · rw [if_neg q]; exact h y q
  refine iter_rangeS (n := (b₀ - a₀).toNat) (fun (_ : Unit) m nx => (∀ y, y ≠ x → m y = m₀ y) ∧ nx = news) (fun a _ => a) () hh hr (small_one (by omega) (by omega) (by omega) (by omega)) (rangeSize_nat _ _) F N ⟨fun _ _ => rfl, rfl⟩ ?_ ?_
  · rintro k t _ m₁ nx h tk own hk _ ⟨hm, rfl⟩ F₁ N₁
    have hk' := mem_rangeKs hk
    have e : (fun y => if y = x then some (Value.int k t) else m₁ y) = fun y => if y = x then some (Value.int k t) else m₀ y := by
      funext y
      by_cases q : y = x
      · rw [if_pos q, if_pos q]
      · rw [if_neg q, if_neg q]; exact hm y q
    rw [e] at F₁
    refine wpAny_mono (turn k t h tk own hk'.1 (by omega) F₁ N₁) (fun f s₂ q => ?_) fun _ _ e => e
    have fin : (∃ h' tk' m' all, s₂ = { ({ s with heap := h, toks := tk } : Shared) with heap := h', toks := tk' } ∧ Fr h₀ env.locals h' m' ∧ News h₀ env.locals h' all ∧ (∀ p ∈ nx, p ∈ all) ∧ (∀ p ∈ own, p ∈ all) ∧ ∀ y, y ≠ x → m' y = m₀ y) →
        InvEndN h₀ env.locals (fun m nx' => (∀ y, y ≠ x → m y = m₀ y) ∧ nx' = nx) own (nx.map (·.1)) { s with heap := h, toks := tk } s₂ := by
      rintro ⟨h', tk', m', all, e, F', N', h1, h2, h3⟩
      exact ⟨h', tk', m', all, nx, e, F', N', h1, h2, rfl, h3, rfl⟩
    cases f with
    | ret v => exact q
    | brk => exact q
    | next => exact fin q
    | cont => exact fin q
  · rintro m₁ nx h tk ⟨hm, rfl⟩ F₁ N₁
    rw [form m₁ hm] at F₁
    exact done _ h tk F₁ N₁
end

section
variable {prog : Program} {w : World} {A : Around} {E : Value → Shared → Prop} {s : Shared} {h₀ : Heap} {L d : Addr} {news : List (Addr × Obj)} {Q : Value → Shared → Prop} {o : Obj} {l : Ask}
theorem len_ask (N : News h₀ L s.heap news) (hp : (d, o) ∈ news) (hd : o.IsDictOf (PySem.strKind prog w) (kv l)) (lo : (d == sysModules) = false) (hl : l.length ≤ 3) (h : Q (.int l.length (s.toks + 1)) { s with toks := s.toks + 1 + 1 }) :
    wpAny (model prog w) A (call (.builtin "len") [.ref d]) Q E s :=
  kda_len N hp hd lo (by rw [kv_length]; omega) (by rw [kv_length]; exact h)
theorem kv_some (l : Ask) (x : Str) : (valueAt (kv l) x).isSome = decide (x ∈ l.map (·.1)) := by
  induction l with
  | nil => rfl
  | cons e r ih =>
    unfold kv at ih ⊢
    by_cases q : e.1 = x
    · rw [decide_eq_true (by simp [q])]
      simp [valueAt, q]
    · have : decide (x ∈ (e :: r).map (·.1)) = decide (x ∈ r.map (·.1)) := by
        have : x ≠ e.1 := fun z => q z.symm
        simp [this]
      rw [this, ← ih]
      simp [valueAt, q]
theorem in_ask {x : Str} {t : Tok} (N : News h₀ L s.heap news) (hp : (d, o) ∈ news) (hd : o.IsDictOf (PySem.strKind prog w) (kv l)) (lo : (d == sysModules) = false) (h : Q (.bool (decide (x ∈ l.map (·.1)))) { s with toks := s.toks + 1 }) :
    wpAny (model prog w) A (compareOp .In (.str x t) (.ref d)) Q E s := kda_in N hp hd lo (strKind_is _ _ _ _) _ (kv_some l x) h
end

theorem names_ok {l0 l : Ask} {b dl : Int} {TT : List TE} (I : PInv l0 l b dl (TT.map teVal)) (hk : Keys7 (l0.map (·.1))) : ∀ e ∈ TT, PyData.strOk e.2.2.2.1 = true := fun e he =>
  strOk_keys (keys_in hk (I.names _ (List.mem_map_of_mem he)))
theorem subL_of : ∀ {l all : List (Addr × Obj)}, (∀ p ∈ l, p ∈ all) → SubL l all
  | [], _, _ => trivial
  | _ :: _, _, h => ⟨h _ (.head _), subL_of fun p hp => h p (.tail _ hp)⟩
theorem ctr_fin0 {rs stuff : List (Addr × Obj)} {s : Shared} {g h' : Heap} {L' : Addr} {Post : Value → List (Addr × Obj) → List (Addr × Obj) → Prop} {Q : Value → Shared → Prop} {r : Value} {tk' : Nat}
    (hret : ∀ (r : Value) (mt' new : List (Addr × Obj)) (h' : Heap) (tk' : Nat), Post r mt' new → mt'.map (fun p : Addr × Obj => p.1) = ([] : List (Addr × Obj)).map (fun p : Addr × Obj => p.1) → (∀ b o, s.heap.get? b = some o → b ∉ ([] : List (Addr × Obj)).map (fun p : Addr × Obj => p.1) → h'.get? b = some o) → (∀ p ∈ mt', h'.get? p.1 = some p.2) → (∀ p ∈ new, h'.get? p.1 = some p.2 ∧ s.heap.get? p.1 = none) →
      Q r { s with heap := h', toks := tk' }) {h₀ : Heap} {L : Addr} (N0 : News h₀ L s.heap rs) (hg : g = hideAll s.heap (rs.map (fun p : Addr × Obj => p.1))) (N : News g L' h' stuff) (hk : KeepG g h') (sub : ∀ p ∈ rs, p ∈ stuff) (P : Post r [] []) : Q r { s with heap := h', toks := tk' } := by
  refine hret r [] [] h' tk' P rfl (fun b o e _ => ?_) (fun p hp => nomatch hp) (fun p hp => nomatch hp)
  by_cases hr : b ∈ rs.map (·.1)
  · obtain ⟨q, hq, rfl⟩ := List.mem_map.mp hr
    have e1 := (N0 q hq).1
    rw [e1] at e
    cases e
    exact (N q (sub q hq)).1
  · refine hk b o ?_
    rw [hg]
    exact hideAll_get _ e hr
theorem tt_base {h₀ h : Heap} {L d tl : Addr} {o : Obj} {e : Nat} {TT : List TE} (N0 : News h₀ L h (([] : List (Addr × Obj)) ++ ((d, o) :: (tl, toldObj TT e) :: TT.map teObj))) (hd : o.cls ≠ .type "tuple") :
    ∀ p ∈ TT.map teObj, (hideAll h ([(d, o), (tl, toldObj TT e)].map (fun p : Addr × Obj => p.1))).get? p.1 = some p.2 := by
  intro p hp
  have e1 := (N0 p (.tail _ (.tail _ hp))).1
  refine hideAll_get _ e1 fun hm => ?_
  have hc : p.2.cls = .type "tuple" := by
    obtain ⟨e, _, rfl⟩ := List.mem_map.mp hp
    rfl
  rcases List.mem_cons.mp hm with h1 | h1
  · have e2 : h.get? d = some o := (N0 (d, o) (.head _)).1
    have h1 : p.1 = d := h1
    rw [← h1, e1] at e2
    cases e2
    exact hd hc
  · have e2 : h.get? tl = some (toldObj TT e) := (N0 (tl, toldObj TT e) (.tail _ (.head _))).1
    have h1 : p.1 = tl := List.mem_singleton.mp h1
    rw [← h1, e1] at e2
    injection e2 with e2
    rw [e2] at hc
    exact absurd (show Value.type "list" = Value.type "tuple" from hc) (by simp)
theorem len_one {prog : Program} {w : World} {A : Around} {E : Value → Shared → Prop} {s : Shared} {h₀ : Heap} {L d : Addr} {news : List (Addr × Obj)} {Q : Value → Shared → Prop} {o : Obj} {l : Ask} (N : News h₀ L s.heap news) (hp : (d, o) ∈ news) (hd : o.IsDictOf (PySem.strKind prog w) (kv l)) (lo : (d == sysModules) = false) (hl : (l.length : Int) = 1) (h : Q (.int 1 (s.toks + 1)) { s with toks := s.toks + 1 + 1 }) :
    wpAny (model prog w) A (call (.builtin "len") [.ref d]) Q E s :=
  len_ask N hp hd lo (by omega) (by rw [hl]; exact h)
theorem longest_pos {b dl : Int} {l : Ask} (h : sA ∈ l.map (·.1)) : longest b dl l = b + dl := by unfold longest; rw [if_pos h]
theorem longest_neg {b dl : Int} {l : Ask} (h : ¬ sA ∈ l.map (·.1)) : longest b dl l = b + 0 := by unfold longest; rw [if_neg h]
theorem gap_at {l0 l : Ask} {b dl : Int} {TT : List TE} (I : PInv l0 l b dl (TT.map teVal)) {k : Int} (h1 : 1 ≤ k) (h2 : k < (TT.length : Int)) :
    b * 2 ^ (k - 1).toNat ≤ (TT.getD k.toNat te0).2.1 - (TT.getD (k - 1).toNat te0).2.1 ∧ (TT.getD k.toNat te0).2.1 - (TT.getD (k - 1).toNat te0).2.1 ≤ longest b dl l0 * 2 ^ k.toNat := by
  have hi : (k - 1).toNat + 1 < TT.length := by omega
  have e : k.toNat = (k - 1).toNat + 1 := by omega
  have g := I.gaps (k - 1).toNat (by simpa using hi)
  simp only [List.getElem_map, teVal] at g
  rw [e]
  simp only [List.getD_eq_getElem?_getD, List.getElem?_eq_getElem hi, List.getElem?_eq_getElem (show (k - 1).toNat < TT.length by omega), Option.getD_some]
  exact g
theorem head_at {l0 l : Ask} {b dl : Int} {TT : List TE} (I : PInv l0 l b dl (TT.map teVal)) (h0 : 0 < TT.length) : minT l0 + b ≤ (TT.getD (Int.toNat 0) te0).2.1 := by
  have g := I.head (by simpa using h0)
  simp only [List.getElem_map, teVal] at g
  show minT l0 + b ≤ (TT.getD 0 te0).2.1
  simp only [List.getD_eq_getElem?_getD, List.getElem?_eq_getElem h0, Option.getD_some]
  exact g

def TupEnd (h₀ : Heap) (L : Addr) (m : Str → Option Value) (s₂ : Shared) (v : Int) (sp : Str) (top news : List (Addr × Obj)) (y : Value) (s' : Shared) : Prop :=
  ∃ h' tk' a t1 t2, y = .ref a ∧ s' = { s₂ with heap := h', toks := tk' } ∧ Fr h₀ L h' m ∧ News h₀ L h' ((a, ({ cls := .type "tuple", data := .seq #[.int v t1, .str sp t2] } : Obj)) :: (top ++ news)) ∧ ∀ p ∈ top, @Ne Nat a p.1
theorem TupEnd.intro {h₀ h' : Heap} {L a I C D : Addr} {m : Str → Option Value} {s₂ : Shared} {v v' : Int} {sp : Str} {oI oC oD : Obj} {news : List (Addr × Obj)} {t1 t2 : Tok} {tk' : Nat} (F : Fr h₀ L h' m)
    (N : News h₀ L h' ((a, ({ cls := .type "tuple", data := .seq #[.int v' t1, .str sp t2] } : Obj)) :: (I, oI) :: (C, oC) :: (D, oD) :: news)) (n1 : @Ne Nat a I) (n2 : @Ne Nat a C) (n3 : @Ne Nat a D) (hv : v' = v) :
    TupEnd h₀ L m s₂ v sp [(I, oI), (C, oC), (D, oD)] news (.ref a) { s₂ with heap := h', toks := tk' } := by
  subst hv
  refine ⟨h', tk', a, t1, t2, rfl, rfl, F, N, fun p hp => ?_⟩
  rcases List.mem_cons.mp hp with rfl | hp
  · exact n1
  rcases List.mem_cons.mp hp with rfl | hp
  · exact n2
  rw [List.mem_singleton.mp hp]
  exact n3
theorem tup_val_pos {a b dl c : Int} {x : Str} (h : x = sA) : a + (b + dl) * c = a + per0 b dl x * c := by unfold per0; rw [if_pos h]
theorem tup_val_neg {a b dl c : Int} {x : Str} (h : ¬ x = sA) : a + (b + 0) * c = a + per0 b dl x * c := by unfold per0; rw [if_neg h]
theorem per0_pos {b dl : Int} {x : Str} (h : x = sA) : b + dl = per0 b dl x := by unfold per0; rw [if_pos h]
theorem per0_neg {b dl : Int} {x : Str} (h : ¬ x = sA) : b + 0 = per0 b dl x := by unfold per0; rw [if_neg h]
def SubOwn (CL : List TE) (own : List (Addr × Obj)) : Prop := ∀ p ∈ CL.map teObj, p ∈ own
theorem SubOwn.mem {CL : List TE} {own : List (Addr × Obj)} (h : SubOwn CL own) {p : Addr × Obj} (hp : p ∈ CL.map teObj) : p ∈ own := h p hp
def IsF (_ : Int → Int) (_ : Str) : Prop := True
theorem off3_app {I C D : Addr} : ∀ {a b : List (Addr × Obj)}, LCg.Off3 I C D a → LCg.Off3 I C D b → LCg.Off3 I C D (a ++ b)
  | [], _, _, h => h
  | _ :: _, _, ⟨h, r⟩, h2 => ⟨h, off3_app r h2⟩
theorem off3_left {I C D : Addr} : ∀ {a b : List (Addr × Obj)}, LCg.Off3 I C D (a ++ b) → LCg.Off3 I C D a
  | [], _, _ => trivial
  | _ :: r, _, ⟨h, h2⟩ => ⟨h, off3_left (a := r) h2⟩
theorem off3_right {I C D : Addr} : ∀ {a b : List (Addr × Obj)}, LCg.Off3 I C D (a ++ b) → LCg.Off3 I C D b
  | [], _, h => h
  | _ :: r, _, ⟨_, h⟩ => off3_right (a := r) h
section
variable {prog : Program} {w : World} {A : Around} {h₀ : Heap} {L : Addr} {m : Str → Option Value} {env : Env} {elt : PySem.Expr} {x sp : Str} {scope : Scope} {cl : List (Str × Addr)} {s₁ : Shared} {Fin : Shared → List Value → List (Addr × Obj) → Prop} {news : List (Addr × Obj)} {r : Addr} {t u v : Tok} {n : Nat} {f : Int → Int}
theorem range_tups (_ : IsF f sp) (hh : A.handled = none) (F : Fr h₀ L s₁.heap m) (N : News h₀ L s₁.heap news) (hr : IsRange s₁.heap r 0 (n : Int) 1 t u v) (h9 : n ≤ 9)
    (turn : ∀ k t I oI C oC D m₂ ys own h tk (s₂ : Shared) (E' : Value → Shared → Prop), 0 ≤ k → k < (n : Int) → LCg.NsObj oC m₂ → m₂ x = some (.int k t) → Fr h₀ L h m → News h₀ L h ((I, oI) :: (C, oC) :: (D, LCg.lst ys) :: (news ++ own)) → ((@Ne Nat I C) ∧ (@Ne Nat I D) ∧ (@Ne Nat C D)) →
      wpAny (model prog w) A (eval elt (compEnvC scope cl C env)) (fun y s' => TupEnd h₀ L m s₂ (f k) sp [(I, oI), (C, oC), (D, LCg.lst ys)] (news ++ own) y s') E' { s₂ with heap := h, toks := tk })
    (fin : ∀ g (CL : List TE) own, SubOwn CL own → CL.map teVal = (List.range n).map (fun i : Nat => (f (i : Int), sp)) → Fin { s₁ with heap := g } (CL.map fun e => .ref e.1) (news ++ own)) :
    LCg.CompSrc prog w A h₀ L m env elt x scope cl Fin (.ref r) s₁ := by
  refine LCg.CompSrc.range (n := n) hh F N hr (small_one (by omega) (by omega) (by omega) (by omega)) (by rw [show ((n : Nat) : Int) = (((n : Int) - 0).toNat : Int) by omega]; exact rangeSize_nat _ _) (by rw [sizeLine_eq]; omega) fun g => ?_
  have key : ∀ (j i : Nat) (CL : List TE) (own : List (Addr × Obj)), i + j = n → (∀ p ∈ CL.map teObj, p ∈ own) → CL.map teVal = (List.range i).map (fun i : Nat => (f (i : Int), sp)) → CL.length = i →
      LCg.CompRest prog w A h₀ L m env elt x scope cl { s₁ with heap := g } (fun _ => True) (fun i v => ∃ t, v = .int (0 + (i : Int)) t) (Fin { s₁ with heap := g }) j i (CL.map fun e => .ref e.1) (news ++ own) := by
    intro j
    induction j with
    | zero =>
      intro i CL own hi h1 h2 h3
      obtain rfl : i = n := by omega
      exact LCg.CompRest.zero (fin g CL own h1 h2)
    | succ j ih =>
      intro i CL own hi h1 h2 h3
      refine LCg.CompRest.succ ?_
      intro v I oI C oC D m₂ h tk E' hv hC hx F1 N1 off ne
      obtain ⟨t, rfl⟩ := hv
      refine wpAny_mono (turn (0 + (i : Int)) t I oI C oC D m₂ _ own h tk { s₁ with heap := g } E' (by omega) (by omega) hC hx F1 N1 ne) (fun y s₂ hq => ?_) fun _ _ e => e
      obtain ⟨h', tk', a, t1, t2, rfl, rfl, F2, N2, nn⟩ := hq
      replace N2 : News h₀ L h' ((a, ({ cls := .type "tuple", data := .seq #[.int (f (0 + (i : Int))) t1, .str sp t2] } : Obj)) :: (I, oI) :: (C, oC) :: (D, LCg.lst (CL.map fun e => Value.ref e.1)) :: (news ++ own)) := N2
      have n1 : @Ne Nat a I := nn _ (.head _)
      have n2 : @Ne Nat a C := nn _ (.tail _ (.head _))
      have n3 : @Ne Nat a D := nn _ (.tail _ (.tail _ (.head _)))
      refine ⟨h', tk', news ++ ((a, ({ cls := .type "tuple", data := .seq #[.int (f (0 + (i : Int))) t1, .str sp t2] } : Obj)) :: own), rfl, F2, fun p hp => N2 p ?_, ?_, trivial, ?_⟩
      · simp only [List.mem_cons, List.mem_append] at hp ⊢
        rcases hp with h | h | h | h | h | h
        · exact .inr (.inl h)
        · exact .inr (.inr (.inl h))
        · exact .inr (.inr (.inr (.inl h)))
        · exact .inr (.inr (.inr (.inr (.inl h))))
        · exact .inl h
        · exact .inr (.inr (.inr (.inr (.inr h))))
      · exact off3_app (off3_left off) ⟨⟨n1, n2, n3⟩, off3_right off⟩
      · have e := ih (i + 1) (CL ++ [(a, f (0 + (i : Int)), t1, sp, t2)]) ((a, ({ cls := .type "tuple", data := .seq #[.int (f (0 + (i : Int))) t1, .str sp t2] } : Obj)) :: own) (by omega) (fun p hp => ?_) ?_ (by simp [h3])
        · simpa using e
        · simp only [List.map_append, List.map_cons, List.map_nil, List.mem_append, List.mem_singleton] at hp
          rcases hp with hp | rfl
          · exact .tail _ (h1 p hp)
          · exact .head _
        · rw [List.map_append, h2, List.range_succ, List.map_append]
          simp [teVal]
  exact List.append_nil news ▸ key n 0 [] [] (by omega) (fun p hp => nomatch hp) rfl rfl
end
theorem single_eq {l0 l : Ask} {b dl : Int} {TT CL : List TE} (I : PInv l0 l b dl (TT.map teVal)) {x : Str} {a : Int} {u : Tok} (h0 : l0 = [(x, a, u)])
    (h : CL.map teVal = (List.range TT.length).map (fun i : Nat => ((fun k : Int => a + per0 b dl x * (2 ^ k.toNat * 2 - 1)) (i : Int), x))) : TT.map teVal = CL.map teVal := by
  have hs := (I.single x a u h0).1
  rw [h]
  refine List.ext_getElem (by simp) fun i h1 h2 => ?_
  rw [hs i h1]
  simp
end Mine
end
section
open PySem PySem.W PyProof.Rows
set_option maxRecDepth 100000
set_option maxHeartbeats 1000000
namespace Mine
open PySem.Spec PySem.Calls
section
variable {prog : Program} {w : World} {A : Around} {E : Value → Shared → Prop} {s : Shared} {h₀ : Heap} {L tl : Addr} {news : List (Addr × Obj)} {TT : List TE} {n : Nat} {Q : Value → Shared → Prop}
theorem told_last {value slice : PySem.Expr} {u : Tok} (N : News h₀ L s.heap news) (ma : (tl, toldObj TT n) ∈ news) (h0 : 0 < (TT.length : Int)) (h : Q (.ref (TT.getD (TT.length - 1) te0).1) s)
    (hs : subscripted slice false (.ref tl) (.int (-1) u) = operate [.ref tl, .int (-1) u] (getItem (.ref tl) (.int (-1) u)) := by with_unfolding_all rfl) :
    wpAny (model prog w) A (subscriptTail value slice (.ref tl) (.int (-1) u)) Q E s := by
  have hl : s.heap.IsList tl (TT.map fun e => Value.ref e.1).toArray := ⟨_, (N _ ma).1, rfl, _, rfl⟩
  have hz : ((TT.map fun e => Value.ref e.1).toArray.size : Int) = TT.length := by simp
  have e1 : ((-1 : Int) + ((TT.map fun e => Value.ref e.1).toArray.size : Int)).toNat = TT.length - 1 := by rw [hz]; omega
  refine tail_any hl.typeIs slot_list_getitem.lookup (wpAny_getItem_list_neg hl (by decide) (by omega) (by decide) (x := .ref (TT.getD (TT.length - 1) te0).1) ?_ h) hs
  rw [e1]
  have hk : TT.length - 1 < TT.length := by omega
  simp [List.getD_eq_getElem?_getD, hk]
end
theorem minT_one {x : Str} {a : Int} {u : Tok} : minT [(x, a, u)] = a := by
  obtain ⟨e, he, hm⟩ := minT_mem (l := [(x, a, u)]) (by simp)
  rw [List.mem_singleton.mp he] at hm
  exact hm.symm
structure EndsOk (l0 : Ask) (b dl v : Int) (stop : Nat) (TT : List TE) : Prop where
  len : (TT.length : Int) ≤ (stop : Int)
  pos : 0 < (stop : Int) → 0 < (TT.length : Int)
  last : 0 < (TT.length : Int) → (TT.getD (TT.length - 1) te0).2.1 < minT l0 + v
  one : (l0.length : Int) = 1 → (TT.length : Int) = (stop : Int) ∨ minT l0 + v ≤ minT l0 + longest b dl l0 * (2 ^ Int.toNat (TT.length : Int) * 2 - 1)
  many : 0 < (TT.length : Int) → minT l0 + b * 2 ^ Int.toNat ((TT.length : Int) - 1) < minT l0 + v
theorem lastT_getD {TT : List TE} (h : 0 < TT.length) : lastT (TT.map teVal) = (TT.getD (TT.length - 1) te0).2.1 := by
  unfold lastT
  rw [List.getLast?_eq_getElem?]
  have hk : TT.length - 1 < TT.length := by omega
  simp [List.getD_eq_getElem?_getD, teVal, hk]
theorem ends_ok {l0 : Ask} {b dl ow pe v now : Int} {stop : Nat} {TT : List TE} (T : ToldOk l0 b dl ow pe stop (TT.map teVal)) (hv : waitOf ow pe (b + dl) = some v) : EndsOk l0 b dl v stop TT := by
  obtain ⟨l, I⟩ := T.inv
  obtain ⟨e1, e2, e3⟩ := T.ends v hv
  have hl := T.len
  rw [List.length_map] at hl
  have ne : 0 < (TT.length : Int) → TT.map teVal ≠ [] := fun h e => by
    have := congrArg List.length e
    simp at this
    subst this
    simp at h
  have hlast : 0 < (TT.length : Int) → (TT.getD (TT.length - 1) te0).2.1 < minT l0 + v := fun h => by
    have := e1 _ (List.mem_map_of_mem (f := teVal) (getD_te (TT := TT) (i := TT.length - 1) (by omega)))
    exact this
  refine ⟨by omega, fun h => ?_, hlast, fun h => ?_, fun h => ?_⟩
  · have := e2 (by omega)
    have : TT.length ≠ 0 := fun z => this (by rw [List.eq_nil_of_length_eq_zero z]; rfl)
    omega
  · match l0, h, e3 with
    | [(x, a, u)], _, e3 =>
      rcases e3 x a u rfl with q | q
      · left; rw [List.length_map] at q; rw [q]
      · right
        rw [List.length_map] at q
        rw [minT_one] at q ⊢
        have : per0 b dl x = longest b dl [(x, a, u)] := by
          unfold per0 longest
          by_cases z : x = sA
          · simp [z]
          · have : ¬ sA = x := fun y => z y.symm
            simp [z, this]
        rw [← this]
        exact q
  · have f := I.first (ne h)
    rw [lastT_getD (by omega)] at f
    have g := hlast h
    rw [List.length_map] at f
    have : Int.toNat ((TT.length : Int) - 1) = TT.length - 1 := by omega
    rw [this]
    omega
theorem ends_one {n : Nat} {c st m v lo z q : Int} (x : c = 1 → (n : Int) = st ∨ m + v ≤ m + lo * q) (h1 : c = 1) (h2 : (n : Int) ≠ st) (e : lo = z) : m + v ≤ m + z * q := by
  rcases x h1 with y | y
  · exact absurd y h2
  · rw [← e]; exact y
end Mine
end
section
open PySem PySem.W PyProof.Rows
set_option Elab.async false
set_option maxRecDepth 100000
set_option maxHeartbeats 8000000
set_option pp.deepTerms false
set_option pp.proofs.threshold 0
set_option linter.unusedSimpArgs false
namespace Mine
theorem c_drawn (w : World) (b l : Addr) (e e2 : Nat) (k mm : Int) (t t1 : Tok) (vs : List Value) (ns : List Int) (hI : IntsAre vs ns) (hn : ns.length ≤ 36) (hk : 0 ≤ k) (hm : 0 < mm) (hm' : mm ≤ 100) (hlb : @LT.lt Nat _ l b) :
    Ctr w 4 201 [.ref b, .int mm t1] [(b, { cls := .type "list", data := .seq #[.ref l, .int k t] e })] [(l, { cls := .type "list", data := .seq vs.toArray e2 })] (fun r mt' new => new = [] ∧ ∃ v t2 t3, r = .int v t2 ∧ 0 ≤ v ∧ v < mm ∧ mt' = [(b, { cls := .type "list", data := .seq #[.ref l, .int (k + 1) t3] e })]) := by
  k_with_none
  k_with "LTF" => (with_reducible first | (apply And.left; assumption) | (apply And.left; apply And.right; assumption) | (apply And.right; assumption) | (apply And.left; apply And.right; apply And.right; assumption) | (apply And.right; apply And.right; assumption) | (apply And.left; apply And.right; apply And.right; apply And.right; assumption) | (apply And.right; apply And.right; apply And.right; assumption) | (apply And.left; apply And.right; apply And.right; apply And.right; apply And.right; assumption) | (apply And.right; apply And.right; apply And.right; apply And.right; assumption) | (apply And.left; apply And.right; apply And.right; apply And.right; apply And.right; apply And.right; assumption) | (apply And.right; apply And.right; apply And.right; apply And.right; apply And.right; assumption) | (apply And.left; apply And.right; apply And.right; apply And.right; apply And.right; apply And.right; apply And.right; assumption) | (apply And.right; apply And.right; apply And.right; apply And.right; apply And.right; apply And.right; assumption) | (apply And.left; apply And.right; apply And.right; apply And.right; apply And.right; apply And.right; apply And.right; apply And.right; assumption) | (apply And.right; apply And.right; apply And.right; apply And.right; apply And.right; apply And.right; apply And.right; assumption) | (apply And.left; apply And.right; apply And.right; apply And.right; apply And.right; apply And.right; apply And.right; apply And.right; apply And.right; assumption) | (apply And.right; apply And.right; apply And.right; apply And.right; apply And.right; apply And.right; apply And.right; apply And.right; assumption) | (apply And.left; apply And.right; apply And.right; apply And.right; apply And.right; apply And.right; apply And.right; apply And.right; apply And.right; apply And.right; assumption) | (apply And.right; apply And.right; apply And.right; apply And.right; apply And.right; apply And.right; apply And.right; apply And.right; apply And.right; assumption) | (apply And.left; apply And.right; apply And.right; apply And.right; apply And.right; apply And.right; apply And.right; apply And.right; apply And.right; apply And.right; apply And.right; assumption) | (apply And.right; apply And.right; apply And.right; apply And.right; apply And.right; apply And.right; apply And.right; apply And.right; apply And.right; apply And.right; assumption) | (apply And.left; apply And.right; apply And.right; apply And.right; apply And.right; apply And.right; apply And.right; apply And.right; apply And.right; apply And.right; apply And.right; apply And.right; assumption) | (apply And.right; apply And.right; apply And.right; apply And.right; apply And.right; apply And.right; apply And.right; apply And.right; apply And.right; apply And.right; apply And.right; assumption) | (apply And.left; apply And.right; apply And.right; apply And.right; apply And.right; apply And.right; apply And.right; apply And.right; apply And.right; apply And.right; apply And.right; apply And.right; apply And.right; assumption) | (apply And.right; apply And.right; apply And.right; apply And.right; apply And.right; apply And.right; apply And.right; apply And.right; apply And.right; apply And.right; apply And.right; apply And.right; assumption))
  k_with "exec For Name Name cons nil" => ((k_here; (rename Fr _ _ _ _ => lF'); (with_unfolding_all refine' For_turnsG lF' ?g_r1 ?_; (case g_r1 => exact rfl); k_whole)))
  unfold Ctr
  k_fill
  intro dp un gd cn cs a ccd cl outer A₀ base h₀ L m s Q E mean mg mb B F X N T hk hdp hun hret
  have N0 := N
  clear N
  have N := N0
  simp only [List.nil_append, List.cons_append] at N
  k_dflt (refine' callR ?k1 ?k2 ?k3 ?k4 ?k5 ?kA ?kF ?kK ?k6 ?k7 ?k8 ?k9 ?kB ?_ ?c2 ?c3 ?c4 ?c5; (case kA => exact rfl); (case kF => exact rfl); (case kK => assumption); (case k1 => k_asm); (case k2 => k_asm); (case k3 => k_asm); (case k4 => k_asm); (case k5 => k_asm); (case k6 => k_is); (case k7 => k_is); (case k8 => ktr_room); (case k9 => exact BindsTo.of_eq rfl); (case c5 => decide); (case kB => exact locs rfl); (case c2 => exact rfl); (case c3 => exact rfl); (case c4 => exact rfl); k_whole; intro g' L' h' hg' FG' F' N' B' X' T'; (try dsimp only); (try k_fold))
  k_steps
  all_goals (refine' ctr_fin hret N0 ?hg ?hN ?hk [(_, _)] [] ?hm ?hs ?ho ⟨rfl, _, _, _, rfl, ?q1, ?q2, rfl⟩; (case hg => assumption); (case hN => assumption); (case hk => assumption); (case hm => rfl); (case hs => k_subL); (case ho => simp only [List.forall_mem_cons, List.nil_append, List.cons_append, List.not_mem_nil, false_implies, implies_true, and_true, true_and] <;> (repeat' (first | apply And.intro | k_ne))); (case q1 => exact Int.fmod_nonneg_of_pos _ hm); (case q2 => exact Int.fmod_lt_of_pos _ hm))
end Mine
end
section
open PySem PySem.W PyProof.Rows
set_option maxRecDepth 100000
set_option maxHeartbeats 2000000
namespace Mine
open PySem.Spec PySem.Calls Builtin PyProof.V
open AutoSeq1 (wpAny_loadPart')

section
variable {prog : Program} {w : World} {A : Around} {E : Value → Shared → Prop} {s : Shared}
theorem nextOf_tuple_item {it t : Addr} {i : Nat} {items : Array Value} {x : Value} {Q : Value → Shared → Prop} (hit : s.heap.IsTupleIter it t i)
    (ht : s.heap.IsTuple t items) (hx : items[i]? = some x)
    (hQ : ∀ h', h'.IsTupleIter it t (i + 1) → Heap.SameBut it s.heap h' → Q x { s with heap := h' }) :
    wpAny (model prog w) A (Builtin.SmallTypes.nextOf (.ref it)) Q E s := by
  obtain ⟨o, ho, hc, hd⟩ := id hit
  obtain ⟨ol, hol, _, nl, hdl⟩ := ht
  unfold Builtin.SmallTypes.nextOf
  refine wpAny_bind (wpAny_callSpecial?_slot (name := Str.ofString "__next__") hit.typeIs F.slot_tuple_iterator_next
    (wpAny_call_entry F.slot_tuple_iterator_next hit.typeIs F.entry_tuple_iterator_next ?_ (F.args_tuple_iterator_next_1 _)))
  show wpAny _ _ (field (.ref it) 0 >>= _) _ _ s
  refine wpAny_bind (wpAny_field ho hd (x := .ref t) rfl ?_)
  show wpAny _ _ (if (Value.ref t == Value.none) = true then _ else _) _ _ s
  rw [if_neg (show ¬ ((Value.ref t == Value.none) = true) from Bool.false_ne_true)]
  show wpAny _ _ (field (.ref it) 1 >>= _) _ _ s
  refine wpAny_bind (wpAny_field ho hd (x := .int i 0) rfl ?_)
  show wpAny _ _ (seqItems? (.ref t) >>= _) _ _ s
  refine wpAny_bind (wpAny_seqItems hol hdl ?_)
  simp only [Int.toNat_natCast, hx]
  refine wpAny_bind (wpAny_setField ho hd (by simp) (wpAny_pure ⟨x, rfl, wpAny_pure (hQ _ ?_ (Heap.SameBut.update ..))⟩))
  exact ⟨_, Heap.get?_update_self _ ho (Obj.isFreed_of_fields (Obj.data_mapFields hd _)), (Obj.cls_mapFields ..).trans hc, by
    rw [Obj.data_mapFields hd]; simp [rawInt]⟩

theorem nextOf_tuple_end {it t : Addr} {i : Nat} {items : Array Value} {Q : Value → Shared → Prop} (hh : A.handled = none)
    (hit : s.heap.IsTupleIter it t i) (ht : s.heap.IsTuple t items) (hx : items[i]? = none)
    (hE : ∀ h' e, Heap.ExtBut it s.heap h' → (∃ o, h'.get? e = some o ∧ o.cls = .type "StopIteration") → E (.ref e) { s with heap := h' }) :
    wpAny (model prog w) A (Builtin.SmallTypes.nextOf (.ref it)) Q E s := by
  obtain ⟨o, ho, hc, hd⟩ := id hit
  obtain ⟨ol, hol, _, nl, hdl⟩ := ht
  unfold Builtin.SmallTypes.nextOf
  refine wpAny_bind (wpAny_callSpecial?_slot (name := Str.ofString "__next__") hit.typeIs F.slot_tuple_iterator_next
    (wpAny_call_entry F.slot_tuple_iterator_next hit.typeIs F.entry_tuple_iterator_next ?_ (F.args_tuple_iterator_next_1 _)))
  show wpAny _ _ (field (.ref it) 0 >>= _) _ _ s
  refine wpAny_bind (wpAny_field ho hd (x := .ref t) rfl ?_)
  show wpAny _ _ (if (Value.ref t == Value.none) = true then _ else _) _ _ s
  rw [if_neg (show ¬ ((Value.ref t == Value.none) = true) from Bool.false_ne_true)]
  show wpAny _ _ (field (.ref it) 1 >>= _) _ _ s
  refine wpAny_bind (wpAny_field ho hd (x := .int i 0) rfl ?_)
  show wpAny _ _ (seqItems? (.ref t) >>= _) _ _ s
  refine wpAny_bind (wpAny_seqItems hol hdl ?_)
  simp only [Int.toNat_natCast, hx]
  refine wpAny_bind (wpAny_rule (wpAny_bind (wpAny_setField ho hd (by simp) ?_)))
  show wpAny _ _ (newExc (.type "StopIteration") [] >>= _) _ _ _
  refine wpAny_bind ?_
  simp only [newExc, newTuple]
  refine wpAny_bind (wpAny_newObj_type ?_ (by size_fits))
  refine wpAny_bind (m := firstArgMember _ _) (wpAny_of_eq (a := Value.none) (by first | rfl | (simp only [firstArgMember]; rfl)) ?_)
  refine wpAny_newObj_type ?_ (by size_fits)
  simp only [raiseNew]
  refine wpAny_bind (wpAny_handled ?_)
  first | rw [show A.in1.handled = none from hh] | rw [hh]
  refine wpAny_bind (wpAny_pure (wpAny_throw ?_))
  exact hE _ _ (((Heap.SameBut.update ..).extBut.push _).push _) ⟨_, Heap.get?_push_size _ rfl, rfl⟩
end

theorem drawsTuple {prog : Program} {w : World} {A : Around} (hh : A.handled = none) (it l : Addr) (hne : l ≠ it) (items : Array Value) :
    Draws prog w A it [it, l] items.size (fun i v => items[i]? = some v) (fun i h => h.IsTupleIter it l i ∧ h.IsTuple l items) where
  live := fun _ _ st => let ⟨o, ho, _⟩ := st.1; ⟨o, ho⟩
  frame := fun _ _ _ st hk => ⟨st.1.at fun o e => hk it (by simp) o e, st.2.at fun o e => hk l (by simp) o e⟩
  item := fun i s Q E hi st hQ => by
    refine nextOf_tuple_item st.1 st.2 (x := items[i]) (by simp [hi]) fun h' hit' hs' => ?_
    exact hQ _ h' s.toks (by simp [hi]) ⟨hit', st.2.extBut hs'.extBut hne⟩ hs'
  done := fun s Q E st hE => nextOf_tuple_end hh st.1 st.2 (by simp) hE

theorem meets_enum_tup (l : Addr) (items : Array Value) (n : Nat) (dct : Option Addr) (sl : Array (Option Value)) :
    Meets (Builtin.«enumerate.__new__» ⟨[.type "enumerate", .ref l], []⟩) (fun _ R s => s.heap.get? l = some { cls := .type "tuple", dict := dct, data := .seq items n, slots := sl } ∧
      R (.ok (.ret (.ref (s.heap.push { cls := .type "tuple_iterator", data := .fields #[.ref l, .int 0 0] }).objs.size)))
        { s with heap := (s.heap.push { cls := .type "tuple_iterator", data := .fields #[.ref l, .int 0 0] }).push { cls := .type "enumerate", data := .fields #[.none, .bool false, .ref s.heap.objs.size, rawInt 0, .none, .none] } }) :=
  .of_wp fun prog w A R s h => by
    obtain ⟨hp, g, d, tk, os⟩ := s; obtain ⟨hl, h⟩ := h
    have hsub := sub_enumerate
    have hL : Heap.IsTuple (Shared.heap ⟨hp, g, d, tk, os⟩) l items := ⟨_, hl, rfl, n, rfl⟩
    wp_walk using wpAny_loadPart' hl
    refine wpAny_stack_any fun st => wpAny_pure ?_
    split
    · rename_i c _ _ _ _ _
      cases (c == Value.type "enumerate")
      · wp_walk using wpAny_loadPart' hl, wpAny_pyIter_tuple hL
        exact ⟨_, rfl, h⟩
      · wp_walk using wpAny_loadPart' hl, wpAny_pyIter_tuple hL
        exact ⟨_, rfl, h⟩
    · wp_walk using wpAny_loadPart' hl, wpAny_pyIter_tuple hL
      exact ⟨_, rfl, h⟩

section
variable {prog : Program} {w : World} {A : Around} {E : Value → Shared → Prop} {s : Shared}
theorem call_enum_tup {l : Addr} {items : Array Value} {Q : Value → Shared → Prop} (hL : s.heap.IsTuple l items)
    (h : ∀ h', IsEnum h' (s.heap.objs.size + 1) s.heap.objs.size 0 .none → h'.IsTupleIter s.heap.objs.size l 0 → h'.objs.size = s.heap.objs.size + 2 →
      (∀ b o, s.heap.get? b = some o → h'.get? b = some o) → Q (.ref (s.heap.objs.size + 1)) { s with heap := h' }) :
    wpAny (model prog w) A (call (.type "enumerate") [.ref l]) Q E s := by
  obtain ⟨⟨c, dct, dt, sl⟩, hl, hc, n, hd⟩ := hL
  replace hc : c = .type "tuple" := hc
  replace hd : dt = .seq items n := hd
  subst hc hd
  refine callType_new F.called_enumerate (by decide) (F.typeCall_enumerate_1 _) (F.newCall_enumerate_1 _) (fun obj => F.args_object_init_2 obj _) F.entry_enumerate_new
    (meets_enum_tup l items n dct sl) ⟨hl, ?_⟩
  have hz : (s.heap.push { cls := .type "tuple_iterator", data := .fields #[.ref l, .int 0 0] }).objs.size = s.heap.objs.size + 1 := Heap.size_push ..
  show _ ∧ _
  rw [hz]
  have he : IsEnum ((s.heap.push { cls := .type "tuple_iterator", data := .fields #[.ref l, .int 0 0] }).push
      { cls := .type "enumerate", data := .fields #[.none, .bool false, .ref s.heap.objs.size, rawInt 0, .none, .none] }) (s.heap.objs.size + 1) s.heap.objs.size 0 .none := by
    have := Heap.get?_push_size (s.heap.push { cls := .type "tuple_iterator", data := .fields #[.ref l, .int 0 0] })
      (o := { cls := .type "enumerate", data := .fields #[.none, .bool false, .ref s.heap.objs.size, rawInt 0, .none, .none] }) rfl
    rw [hz] at this; exact this
  refine ⟨⟨_, he, rfl⟩, h _ he ⟨_, Heap.get?_push_of_some _ (Heap.get?_push_size _ rfl), rfl, rfl⟩ (by rw [Heap.size_push, hz]) fun b o x => Heap.get?_push_of_some _ (Heap.get?_push_of_some _ x)⟩

variable {env : Env} {h₀ : Heap} {body : List Stmt} {Q : Flow → Shared → Prop}
theorem enum_tup {elts : List Expr} {k : Nat} {pos : Pos} {l : Addr} {lo : Obj} {vs : List Value} {xs : List Itm} {n : Nat} {m₀ : Str → Option Value} {news : List (Addr × Obj)}
    (hh : A.handled = none) (F : Fr h₀ env.locals s.heap m₀) (N : News h₀ env.locals s.heap news) (hm : (l, lo) ∈ news) (hc : lo.cls = .type "tuple") (hd : lo.data = .seq vs.toArray n) (hx : enumItems 0 vs = xs)
    (rest₀ : ∀ I : Addr, (∀ p ∈ news, p.1 < I) → ItemsRest prog w A E h₀ env (.Tuple elts k pos) body Q s [(I + 1, "enumerate"), (I, "tuple_iterator")] [(l, lo)] xs m₀ news) :
    wpAny (model prog w) A (call (.type "enumerate") [.ref l]) (fun xv s₁ => wpAny (model prog w) A (pyIter xv) (fun it s₂ => TurnsAt prog w A h₀ env (.Tuple elts k pos) body Q E it s₂) E s₁) E s := by
  subst hx
  have hax := N _ hm
  have hl : s.heap.IsTuple l vs.toArray := ⟨lo, hax.1, hc, n, hd⟩
  have hlt : l < s.heap.objs.size := Heap.lt_size hax.1
  have hLs : env.locals < s.heap.objs.size := F.ns.lt
  refine call_enum_tup hl fun h' hE hI hsz hk => ?_
  refine wpAny_pyIter_enum hE ?_
  refine ktu_core (tk0 := s.toks) (keep := [(l, lo)]) (KTurns.ofWalksU (WalksT.enumerateD (drawsTuple (A := A.in1) hh s.heap.objs.size l (Nat.ne_of_lt hlt) vs.toArray) (s.heap.objs.size + 1) (Nat.succ_ne_self _) (by
      intro hm'
      rcases List.mem_cons.mp hm' with e | hm'
      · exact absurd e (Nat.succ_ne_self _)
      · exact ktu_ne 1 hlt (List.mem_singleton.mp hm').symm) (by simp)).toU) (by simp [enumItems_length]) ?_ ?_ ?_ ?_ ?_ ?_ ?_ ?_ (F.keeps hk) (N.grown hk) (And.intro hm trivial) (rest₀ _ fun p hp => Heap.lt_size (N p hp).1)
  · rintro i v h ⟨T, vals, rfl, ⟨t, x, hx, rfl⟩, hT⟩
    refine ⟨_, enumItems_get vs 0 i (v := x) (by simpa using hx), T, t, rfl, ?_⟩
    show IsTup h T #[.int ((0 + i : Nat) : Int) t, x]
    rw [Nat.zero_add]
    exact hT
  · rintro i h ⟨⟨old, he⟩, ⟨oi, hoi, hic, _⟩, _⟩
    have he' : ∃ oe : Obj, h.get? (s.heap.objs.size + 1) = some oe ∧ oe.cls = .type "enumerate" := ⟨_, he, rfl⟩
    obtain ⟨oe, h1, h2⟩ := he'
    refine ⟨[(s.heap.objs.size + 1, oe), (s.heap.objs.size, oi)], ⟨⟨rfl, h2⟩, ⟨rfl, hic⟩, trivial⟩, fun p hp => ?_⟩
    rcases List.mem_cons.mp hp with rfl | hp
    · exact h1
    · rw [List.mem_singleton.mp hp]; exact hoi
  · intro b hb
    have hb' : b = s.heap.objs.size + 1 ∨ b = s.heap.objs.size := by simpa using hb
    rcases hb' with rfl | rfl
    · exact ⟨by simp, ktu_new F (Nat.le_add_right _ _)⟩
    · exact ⟨by simp, ktu_new F (Nat.le_refl _)⟩
  · intro b hb
    simpa using hb
  · intro b hb
    have hb' : b = s.heap.objs.size + 1 ∨ b = s.heap.objs.size ∨ b = l := by simpa using hb
    rcases hb' with rfl | rfl | rfl
    · exact .inl (by simp)
    · exact .inl (by simp)
    · exact .inr ⟨lo, by simp⟩
  · intro hI'
    have hb' : env.locals = s.heap.objs.size + 1 ∨ env.locals = s.heap.objs.size ∨ env.locals = l := by simpa using hI'
    rcases hb' with e | e | e
    · exact ktu_ne 1 hLs e
    · exact Nat.ne_of_lt hLs e
    · exact hax.2.1 e.symm
  · intro p hp hI'
    have hb' : p.1 = s.heap.objs.size + 1 ∨ p.1 = s.heap.objs.size := by simpa using hI'
    have hlp := Heap.lt_size (N p hp).1
    rcases hb' with e | e
    · exact ktu_ne 1 hlp e
    · exact Nat.ne_of_lt hlp e
  · exact ⟨⟨.none, hE⟩, hI, hl.at fun o e => hk l o e⟩
end
end Mine
end
section
open PySem PySem.W PyProof.Rows
set_option Elab.async false
set_option maxRecDepth 100000
set_option maxHeartbeats 8000000
set_option pp.deepTerms false
set_option pp.proofs.threshold 0
set_option linter.unusedSimpArgs false
namespace Mine
theorem c_asked (w : World) (b l : Addr) (e e2 : Nat) (k nw ba : Int) (t t1 t2 : Tok) (vs : List Value) (ns : List Int) (hI : IntsAre vs ns) (hn : ns.length ≤ 36) (hk : 0 ≤ k) (hb : 0 ≤ ba) (hb' : ba < 2 ^ 40) (hlb : @LT.lt Nat _ l b) :
    Ctr w 8 208 [.ref b, .int nw t1, .int ba t2] [(b, { cls := .type "list", data := .seq #[.ref l, .int k t] e })] [(l, { cls := .type "list", data := .seq vs.toArray e2 })] (fun r mt' new => ∃ a o2 ks k2 t3, r = .ref a ∧ new = [(a, o2)] ∧ (a == sysModules) = false ∧ o2.IsDictOf (strKind PySem.Challenge.rw_sj0109_01.row.prog w) ks ∧ AskKv ks nw ba ∧ k ≤ k2 ∧ mt' = [(b, { cls := .type "list", data := .seq #[.ref l, .int k2 t3] e })]) := by
  k_with_none
  k_with "LTF" => (with_reducible first | (apply And.left; assumption) | (apply And.left; apply And.right; assumption) | (apply And.right; assumption) | (apply And.left; apply And.right; apply And.right; assumption) | (apply And.right; apply And.right; assumption) | (apply And.left; apply And.right; apply And.right; apply And.right; assumption) | (apply And.right; apply And.right; apply And.right; assumption) | (apply And.left; apply And.right; apply And.right; apply And.right; apply And.right; assumption) | (apply And.right; apply And.right; apply And.right; apply And.right; assumption) | (apply And.left; apply And.right; apply And.right; apply And.right; apply And.right; apply And.right; assumption) | (apply And.right; apply And.right; apply And.right; apply And.right; apply And.right; assumption) | (apply And.left; apply And.right; apply And.right; apply And.right; apply And.right; apply And.right; apply And.right; assumption) | (apply And.right; apply And.right; apply And.right; apply And.right; apply And.right; apply And.right; assumption) | (apply And.left; apply And.right; apply And.right; apply And.right; apply And.right; apply And.right; apply And.right; apply And.right; assumption) | (apply And.right; apply And.right; apply And.right; apply And.right; apply And.right; apply And.right; apply And.right; assumption) | (apply And.left; apply And.right; apply And.right; apply And.right; apply And.right; apply And.right; apply And.right; apply And.right; apply And.right; assumption) | (apply And.right; apply And.right; apply And.right; apply And.right; apply And.right; apply And.right; apply And.right; apply And.right; assumption) | (apply And.left; apply And.right; apply And.right; apply And.right; apply And.right; apply And.right; apply And.right; apply And.right; apply And.right; apply And.right; assumption) | (apply And.right; apply And.right; apply And.right; apply And.right; apply And.right; apply And.right; apply And.right; apply And.right; apply And.right; assumption) | (apply And.left; apply And.right; apply And.right; apply And.right; apply And.right; apply And.right; apply And.right; apply And.right; apply And.right; apply And.right; apply And.right; assumption) | (apply And.right; apply And.right; apply And.right; apply And.right; apply And.right; apply And.right; apply And.right; apply And.right; apply And.right; apply And.right; assumption) | (apply And.left; apply And.right; apply And.right; apply And.right; apply And.right; apply And.right; apply And.right; apply And.right; apply And.right; apply And.right; apply And.right; apply And.right; assumption) | (apply And.right; apply And.right; apply And.right; apply And.right; apply And.right; apply And.right; apply And.right; apply And.right; apply And.right; apply And.right; apply And.right; assumption) | (apply And.left; apply And.right; apply And.right; apply And.right; apply And.right; apply And.right; apply And.right; apply And.right; apply And.right; apply And.right; apply And.right; apply And.right; apply And.right; assumption) | (apply And.right; apply And.right; apply And.right; apply And.right; apply And.right; apply And.right; apply And.right; apply And.right; apply And.right; apply And.right; apply And.right; apply And.right; assumption))
  k_with "exec For Name Name cons nil" => ((k_here; (rename Fr _ _ _ _ => lF'); (with_unfolding_all refine' For_turnsG lF' ?g_r1 ?_; (case g_r1 => exact rfl); k_whole)))
  k_with "exec For Tuple Call cons nil" => ((k_here; (rename Fr _ _ _ _ => lF'); (with_unfolding_all refine' For_turns lF' ?_); k_whole))
  k_with "call type:enumerate" => ((k_here; (with_reducible show wpAny _ _ (call (Value.type _) [Value.ref _]) (fun xv s₁ => wpAny _ _ (pyIter xv) (fun it s₂ => TurnsAt _ _ _ _ _ _ _ _ _ it s₂) _ _) _ _); (rename Fr _ _ _ _ => lF'); (rename News _ _ _ _ => lN'); (with_unfolding_all refine enum_tup (vs := [_, _, _]) (xs := [Itm.pair (fun t => Value.int (0 : Int) t) _, Itm.pair (fun t => Value.int (1 : Int) t) _, Itm.pair (fun t => Value.int (2 : Int) t) _]) (by rfl) lF' lN' (by k_mem) (by rfl) (by rfl) (by rfl) ?_); clear lF' lN'; intro i' l1; (try k_lt l1)))
  k_with "call ref" => ((k_here; k_dflt (refine' ctr_mut (c_drawn _ _ _ _ _ _ _ _ _ _ _ ?s1_r4 ?s2_r4 ?s3_r4 ?s4_r4 ?s5_r4 ?s6_r4) ?k1_r4 ?k2_r4 ?k3_r4 ?k4_r4 ?k5_r4 ?kK_r4 ?kd_r4 ?ku_r4 ?ks_r4 ?_; (case k1_r4 => k_asm); (case k2_r4 => k_asm); (case k3_r4 => k_asm); (case k4_r4 => k_asm); (case k5_r4 => k_asm); (case kK_r4 => first | exact rfl | assumption); (case ks_r4 => k_subL); (case s1_r4 => assumption); (case s2_r4 => assumption); (case s3_r4 => first | assumption | omega | l_fact); (case s4_r4 => first | assumption | omega | l_fact); (case s5_r4 => first | assumption | omega | l_fact); (case s6_r4 => first | assumption | omega | l_fact); (case kd_r4 => ktr_room); (case ku_r4 => ktr_units); k_whole); intro r9 o9 new9 h9 tk9 P9 F9 N9 D9; obtain ⟨e9, v9, t9, u9, e9r, b9, c9, e9m⟩ := P9; subst e9 e9r; (have e9o := one_eq e9m); subst e9o; clear e9m D9; (replace N9 := N9 _ (by k_upd)); (simp only [List.nil_append] at N9); (try dsimp only); (try k_fold)))
  unfold Ctr
  k_fill
  intro dp un gd cn cs a ccd cl outer A₀ base h₀ L m s Q E mean mg mb B F X N T hk hdp hun hret
  have N0 := N
  clear N
  have N := N0
  simp only [List.nil_append, List.cons_append] at N
  k_dflt (refine' callR ?k1 ?k2 ?k3 ?k4 ?k5 ?kA ?kF ?kK ?k6 ?k7 ?k8 ?k9 ?kB ?_ ?c2 ?c3 ?c4 ?c5; (case kA => exact rfl); (case kF => exact rfl); (case kK => assumption); (case k1 => k_asm); (case k2 => k_asm); (case k3 => k_asm); (case k4 => k_asm); (case k5 => k_asm); (case k6 => k_is); (case k7 => k_is); (case k8 => ktr_room); (case k9 => exact BindsTo.of_eq rfl); (case c5 => decide); (case kB => exact locs rfl); (case c2 => exact rfl); (case c3 => exact rfl); (case c4 => exact rfl); k_whole; intro g' L' h' hg' FG' F' N' B' X' T'; (try dsimp only); (try k_fold))
  k_steps
  all_goals first
    | exact absurd (mask_none (by assumption) (by assumption) (by assumption) (by assumption) (by assumption)) id
    | (refine' ctr_fin hret N0 ?hg ?hN ?hk [(_, _)] [(_, _)] ?hm ?hs ?ho ⟨_, _, _, _, _, rfl, rfl, ?q1, ?q2, ?q3, ?q4, rfl⟩; (case hg => assumption); (case hN => assumption); (case hk => assumption); (case hs => k_subL); (case hm => rfl); (case ho => simp only [List.forall_mem_cons, List.nil_append, List.cons_append, List.not_mem_nil, false_implies, implies_true, and_true, true_and] <;> (repeat' (first | apply And.intro | k_ne))); (case q1 => assumption); (case q2 => assumption); (case q4 => omega); (case q3 => first | (refine ⟨[((Str.ofString "initial"), _, _)], by with_unfolding_all rfl, ?_⟩; refine ⟨?_, ?_, ?_⟩; (simp [Keys7]); (simp only [List.forall_mem_cons, List.not_mem_nil, false_implies, implies_true, and_true] <;> (repeat' (first | apply And.intro | exact ask_lo hb (by assumption)))); (simp only [List.forall_mem_cons, List.not_mem_nil, false_implies, implies_true, and_true] <;> (repeat' (first | apply And.intro | exact ask_hi hb (by assumption) (by assumption))))) | (refine ⟨[((Str.ofString "handshake"), _, _)], by with_unfolding_all rfl, ?_⟩; refine ⟨?_, ?_, ?_⟩; (simp [Keys7]); (simp only [List.forall_mem_cons, List.not_mem_nil, false_implies, implies_true, and_true] <;> (repeat' (first | apply And.intro | exact ask_lo hb (by assumption)))); (simp only [List.forall_mem_cons, List.not_mem_nil, false_implies, implies_true, and_true] <;> (repeat' (first | apply And.intro | exact ask_hi hb (by assumption) (by assumption))))) | (refine ⟨[((Str.ofString "application"), _, _)], by with_unfolding_all rfl, ?_⟩; refine ⟨?_, ?_, ?_⟩; (simp [Keys7]); (simp only [List.forall_mem_cons, List.not_mem_nil, false_implies, implies_true, and_true] <;> (repeat' (first | apply And.intro | exact ask_lo hb (by assumption)))); (simp only [List.forall_mem_cons, List.not_mem_nil, false_implies, implies_true, and_true] <;> (repeat' (first | apply And.intro | exact ask_hi hb (by assumption) (by assumption))))) | (refine ⟨[((Str.ofString "initial"), _, _), ((Str.ofString "handshake"), _, _)], by with_unfolding_all rfl, ?_⟩; refine ⟨?_, ?_, ?_⟩; (simp [Keys7]); (simp only [List.forall_mem_cons, List.not_mem_nil, false_implies, implies_true, and_true] <;> (repeat' (first | apply And.intro | exact ask_lo hb (by assumption)))); (simp only [List.forall_mem_cons, List.not_mem_nil, false_implies, implies_true, and_true] <;> (repeat' (first | apply And.intro | exact ask_hi hb (by assumption) (by assumption))))) | (refine ⟨[((Str.ofString "initial"), _, _), ((Str.ofString "application"), _, _)], by with_unfolding_all rfl, ?_⟩; refine ⟨?_, ?_, ?_⟩; (simp [Keys7]); (simp only [List.forall_mem_cons, List.not_mem_nil, false_implies, implies_true, and_true] <;> (repeat' (first | apply And.intro | exact ask_lo hb (by assumption)))); (simp only [List.forall_mem_cons, List.not_mem_nil, false_implies, implies_true, and_true] <;> (repeat' (first | apply And.intro | exact ask_hi hb (by assumption) (by assumption))))) | (refine ⟨[((Str.ofString "handshake"), _, _), ((Str.ofString "application"), _, _)], by with_unfolding_all rfl, ?_⟩; refine ⟨?_, ?_, ?_⟩; (simp [Keys7]); (simp only [List.forall_mem_cons, List.not_mem_nil, false_implies, implies_true, and_true] <;> (repeat' (first | apply And.intro | exact ask_lo hb (by assumption)))); (simp only [List.forall_mem_cons, List.not_mem_nil, false_implies, implies_true, and_true] <;> (repeat' (first | apply And.intro | exact ask_hi hb (by assumption) (by assumption))))) | (refine ⟨[((Str.ofString "initial"), _, _), ((Str.ofString "handshake"), _, _), ((Str.ofString "application"), _, _)], by with_unfolding_all rfl, ?_⟩; refine ⟨?_, ?_, ?_⟩; (simp [Keys7]); (simp only [List.forall_mem_cons, List.not_mem_nil, false_implies, implies_true, and_true] <;> (repeat' (first | apply And.intro | exact ask_lo hb (by assumption)))); (simp only [List.forall_mem_cons, List.not_mem_nil, false_implies, implies_true, and_true] <;> (repeat' (first | apply And.intro | exact ask_hi hb (by assumption) (by assumption)))))))
end Mine
end
section
open PySem PySem.W PyProof.Rows
set_option Elab.async false
set_option maxRecDepth 100000
set_option maxHeartbeats 8000000
set_option pp.deepTerms false
set_option pp.proofs.threshold 0
set_option linter.unusedSimpArgs false
namespace Mine
theorem c_on_sent_f (w : World) (x dx : Addr) (k1 k2 k3 k4 q1 q2 : Tok) (ow pe : Int) (sv : Value) (hxd : @LT.lt Nat _ dx x) (nw : Int) (t1 : Tok) :
    Ctr w 4 102 [.ref x, .int nw t1, .bool true] [(dx, (dictOf [⟨PyData.keyHash w.params (Str.ofString "own"), .str (Str.ofString "own") k1, .int ow q1⟩, ⟨PyData.keyHash w.params (Str.ofString "peer"), .str (Str.ofString "peer") k2, .int pe q2⟩, ⟨PyData.keyHash w.params (Str.ofString "since"), .str (Str.ofString "since") k3, sv⟩, ⟨PyData.keyHash w.params (Str.ofString "has_asked"), .str (Str.ofString "has_asked") k4, .bool false⟩] 4))] [(x, instObj 126 dx)] (fun r mt' new => new = [] ∧ r = .none ∧ mt' = [(dx, (dictOf [⟨PyData.keyHash w.params (Str.ofString "own"), .str (Str.ofString "own") k1, .int ow q1⟩, ⟨PyData.keyHash w.params (Str.ofString "peer"), .str (Str.ofString "peer") k2, .int pe q2⟩, ⟨PyData.keyHash w.params (Str.ofString "since"), .str (Str.ofString "since") k3, .int nw t1⟩, ⟨PyData.keyHash w.params (Str.ofString "has_asked"), .str (Str.ofString "has_asked") k4, .bool true⟩] 4))]) := by
  k_with_none
  k_with "LTF" => (with_reducible first | (apply And.left; assumption) | (apply And.left; apply And.right; assumption) | (apply And.right; assumption) | (apply And.left; apply And.right; apply And.right; assumption) | (apply And.right; apply And.right; assumption) | (apply And.left; apply And.right; apply And.right; apply And.right; assumption) | (apply And.right; apply And.right; apply And.right; assumption) | (apply And.left; apply And.right; apply And.right; apply And.right; apply And.right; assumption) | (apply And.right; apply And.right; apply And.right; apply And.right; assumption) | (apply And.left; apply And.right; apply And.right; apply And.right; apply And.right; apply And.right; assumption) | (apply And.right; apply And.right; apply And.right; apply And.right; apply And.right; assumption) | (apply And.left; apply And.right; apply And.right; apply And.right; apply And.right; apply And.right; apply And.right; assumption) | (apply And.right; apply And.right; apply And.right; apply And.right; apply And.right; apply And.right; assumption) | (apply And.left; apply And.right; apply And.right; apply And.right; apply And.right; apply And.right; apply And.right; apply And.right; assumption) | (apply And.right; apply And.right; apply And.right; apply And.right; apply And.right; apply And.right; apply And.right; assumption) | (apply And.left; apply And.right; apply And.right; apply And.right; apply And.right; apply And.right; apply And.right; apply And.right; apply And.right; assumption) | (apply And.right; apply And.right; apply And.right; apply And.right; apply And.right; apply And.right; apply And.right; apply And.right; assumption) | (apply And.left; apply And.right; apply And.right; apply And.right; apply And.right; apply And.right; apply And.right; apply And.right; apply And.right; apply And.right; assumption) | (apply And.right; apply And.right; apply And.right; apply And.right; apply And.right; apply And.right; apply And.right; apply And.right; apply And.right; assumption) | (apply And.left; apply And.right; apply And.right; apply And.right; apply And.right; apply And.right; apply And.right; apply And.right; apply And.right; apply And.right; apply And.right; assumption) | (apply And.right; apply And.right; apply And.right; apply And.right; apply And.right; apply And.right; apply And.right; apply And.right; apply And.right; apply And.right; assumption) | (apply And.left; apply And.right; apply And.right; apply And.right; apply And.right; apply And.right; apply And.right; apply And.right; apply And.right; apply And.right; apply And.right; apply And.right; assumption) | (apply And.right; apply And.right; apply And.right; apply And.right; apply And.right; apply And.right; apply And.right; apply And.right; apply And.right; apply And.right; apply And.right; assumption) | (apply And.left; apply And.right; apply And.right; apply And.right; apply And.right; apply And.right; apply And.right; apply And.right; apply And.right; apply And.right; apply And.right; apply And.right; apply And.right; assumption) | (apply And.right; apply And.right; apply And.right; apply And.right; apply And.right; apply And.right; apply And.right; apply And.right; apply And.right; apply And.right; apply And.right; apply And.right; assumption))
  k_with "exec For Name Name cons nil" => ((k_here; (rename Fr _ _ _ _ => lF'); (with_unfolding_all refine' For_turnsG lF' ?g_r1 ?_; (case g_r1 => exact rfl); k_whole)))
  unfold Ctr
  k_fill
  intro dp un gd cn cs a ccd cl outer A₀ base h₀ L m s Q E mean mg mb B F X N T hk hdp hun hret
  have N0 := N
  clear N
  have N := N0
  simp only [List.nil_append, List.cons_append] at N
  k_dflt (refine' callR ?k1 ?k2 ?k3 ?k4 ?k5 ?kA ?kF ?kK ?k6 ?k7 ?k8 ?k9 ?kB ?_ ?c2 ?c3 ?c4 ?c5; (case kA => exact rfl); (case kF => exact rfl); (case kK => assumption); (case k1 => k_asm); (case k2 => k_asm); (case k3 => k_asm); (case k4 => k_asm); (case k5 => k_asm); (case k6 => k_is); (case k7 => k_is); (case k8 => ktr_room); (case k9 => exact BindsTo.of_eq rfl); (case c5 => decide); (case kB => exact locs rfl); (case c2 => exact rfl); (case c3 => exact rfl); (case c4 => exact rfl); k_whole; intro g' L' h' hg' FG' F' N' B' X' T'; (try dsimp only); (try k_fold))
  k_steps
  all_goals (refine' ctr_fin hret N0 ?hg ?hN ?hk [(_, _)] [] ?hm ?hs ?ho ⟨rfl, rfl, rfl⟩; (case hg => assumption); (case hN => assumption); (case hk => assumption); (case hm => rfl); (case hs => k_subL); (case ho => simp only [List.forall_mem_cons, List.nil_append, List.cons_append, List.not_mem_nil, false_implies, implies_true, and_true, true_and] <;> (repeat' (first | apply And.intro | k_ne))))
end Mine
end
section
open PySem PySem.W PyProof.Rows
set_option Elab.async false
set_option maxRecDepth 100000
set_option maxHeartbeats 8000000
set_option pp.deepTerms false
set_option pp.proofs.threshold 0
set_option linter.unusedSimpArgs false
namespace Mine
theorem c_on_sent_t (w : World) (x dx : Addr) (k1 k2 k3 k4 q1 q2 : Tok) (ow pe : Int) (sv : Value) (hxd : @LT.lt Nat _ dx x) (nw : Int) (t1 : Tok) :
    Ctr w 4 102 [.ref x, .int nw t1, .bool true] [(dx, (dictOf [⟨PyData.keyHash w.params (Str.ofString "own"), .str (Str.ofString "own") k1, .int ow q1⟩, ⟨PyData.keyHash w.params (Str.ofString "peer"), .str (Str.ofString "peer") k2, .int pe q2⟩, ⟨PyData.keyHash w.params (Str.ofString "since"), .str (Str.ofString "since") k3, sv⟩, ⟨PyData.keyHash w.params (Str.ofString "has_asked"), .str (Str.ofString "has_asked") k4, .bool true⟩] 4))] [(x, instObj 126 dx)] (fun r mt' new => new = [] ∧ r = .none ∧ mt' = [(dx, (dictOf [⟨PyData.keyHash w.params (Str.ofString "own"), .str (Str.ofString "own") k1, .int ow q1⟩, ⟨PyData.keyHash w.params (Str.ofString "peer"), .str (Str.ofString "peer") k2, .int pe q2⟩, ⟨PyData.keyHash w.params (Str.ofString "since"), .str (Str.ofString "since") k3, sv⟩, ⟨PyData.keyHash w.params (Str.ofString "has_asked"), .str (Str.ofString "has_asked") k4, .bool true⟩] 4))]) := by
  k_with_none
  k_with "LTF" => (with_reducible first | (apply And.left; assumption) | (apply And.left; apply And.right; assumption) | (apply And.right; assumption) | (apply And.left; apply And.right; apply And.right; assumption) | (apply And.right; apply And.right; assumption) | (apply And.left; apply And.right; apply And.right; apply And.right; assumption) | (apply And.right; apply And.right; apply And.right; assumption) | (apply And.left; apply And.right; apply And.right; apply And.right; apply And.right; assumption) | (apply And.right; apply And.right; apply And.right; apply And.right; assumption) | (apply And.left; apply And.right; apply And.right; apply And.right; apply And.right; apply And.right; assumption) | (apply And.right; apply And.right; apply And.right; apply And.right; apply And.right; assumption) | (apply And.left; apply And.right; apply And.right; apply And.right; apply And.right; apply And.right; apply And.right; assumption) | (apply And.right; apply And.right; apply And.right; apply And.right; apply And.right; apply And.right; assumption) | (apply And.left; apply And.right; apply And.right; apply And.right; apply And.right; apply And.right; apply And.right; apply And.right; assumption) | (apply And.right; apply And.right; apply And.right; apply And.right; apply And.right; apply And.right; apply And.right; assumption) | (apply And.left; apply And.right; apply And.right; apply And.right; apply And.right; apply And.right; apply And.right; apply And.right; apply And.right; assumption) | (apply And.right; apply And.right; apply And.right; apply And.right; apply And.right; apply And.right; apply And.right; apply And.right; assumption) | (apply And.left; apply And.right; apply And.right; apply And.right; apply And.right; apply And.right; apply And.right; apply And.right; apply And.right; apply And.right; assumption) | (apply And.right; apply And.right; apply And.right; apply And.right; apply And.right; apply And.right; apply And.right; apply And.right; apply And.right; assumption) | (apply And.left; apply And.right; apply And.right; apply And.right; apply And.right; apply And.right; apply And.right; apply And.right; apply And.right; apply And.right; apply And.right; assumption) | (apply And.right; apply And.right; apply And.right; apply And.right; apply And.right; apply And.right; apply And.right; apply And.right; apply And.right; apply And.right; assumption) | (apply And.left; apply And.right; apply And.right; apply And.right; apply And.right; apply And.right; apply And.right; apply And.right; apply And.right; apply And.right; apply And.right; apply And.right; assumption) | (apply And.right; apply And.right; apply And.right; apply And.right; apply And.right; apply And.right; apply And.right; apply And.right; apply And.right; apply And.right; apply And.right; assumption) | (apply And.left; apply And.right; apply And.right; apply And.right; apply And.right; apply And.right; apply And.right; apply And.right; apply And.right; apply And.right; apply And.right; apply And.right; apply And.right; assumption) | (apply And.right; apply And.right; apply And.right; apply And.right; apply And.right; apply And.right; apply And.right; apply And.right; apply And.right; apply And.right; apply And.right; apply And.right; assumption))
  k_with "exec For Name Name cons nil" => ((k_here; (rename Fr _ _ _ _ => lF'); (with_unfolding_all refine' For_turnsG lF' ?g_r1 ?_; (case g_r1 => exact rfl); k_whole)))
  unfold Ctr
  k_fill
  intro dp un gd cn cs a ccd cl outer A₀ base h₀ L m s Q E mean mg mb B F X N T hk hdp hun hret
  have N0 := N
  clear N
  have N := N0
  simp only [List.nil_append, List.cons_append] at N
  k_dflt (refine' callR ?k1 ?k2 ?k3 ?k4 ?k5 ?kA ?kF ?kK ?k6 ?k7 ?k8 ?k9 ?kB ?_ ?c2 ?c3 ?c4 ?c5; (case kA => exact rfl); (case kF => exact rfl); (case kK => assumption); (case k1 => k_asm); (case k2 => k_asm); (case k3 => k_asm); (case k4 => k_asm); (case k5 => k_asm); (case k6 => k_is); (case k7 => k_is); (case k8 => ktr_room); (case k9 => exact BindsTo.of_eq rfl); (case c5 => decide); (case kB => exact locs rfl); (case c2 => exact rfl); (case c3 => exact rfl); (case c4 => exact rfl); k_whole; intro g' L' h' hg' FG' F' N' B' X' T'; (try dsimp only); (try k_fold))
  k_steps
  all_goals (refine' ctr_fin hret N0 ?hg ?hN ?hk [(_, _)] [] ?hm ?hs ?ho ⟨rfl, rfl, rfl⟩; (case hg => assumption); (case hN => assumption); (case hk => assumption); (case hm => rfl); (case hs => k_subL); (case ho => simp only [List.forall_mem_cons, List.nil_append, List.cons_append, List.not_mem_nil, false_implies, implies_true, and_true, true_and] <;> (repeat' (first | apply And.intro | k_ne))))
end Mine
end
section
open PySem PySem.W PyProof.Rows
set_option maxRecDepth 100000
namespace Mine
section
variable {prog : Program} {w : World} {KK : Type} [DecidableEq KK] {knd : KeyKind prog w KK} {A : Around} {E : Value → Shared → Prop} {s : Shared} {h₀ : Heap} {L src : Addr} {m : Str → Option Value} {news : List (Addr × Obj)}
theorem dictCopy {kvs : List (KK × Value)} {o0 : Obj} {Q : Value → Shared → Prop} (F : Fr h₀ L s.heap m) (N : News h₀ L s.heap news) (hbig : h₀.NoLimit) (hm : (src, o0) ∈ news) (hd0 : o0.IsDictOf knd kvs) (lo0 : (src == sysModules) = false) (hsz : kvs.length ≤ sizeLine)
    (k : ∀ d h' o, Fr h₀ L h' m → News h₀ L h' ((d, o) :: news) → (∀ p ∈ news, p.1 < d) → (d == sysModules) = false → o.IsDictOf knd kvs → Q (.ref d) { s with heap := h' }) :
    wpAny (model prog w) A (call (.type "dict") [.ref src]) Q E s := by
  refine kt_call_dict lo0 (Heap.dictOf_iff.mpr ⟨o0, (N _ hm).1, hd0⟩) hsz fun h' hm' hs => ?_
  obtain ⟨o', ho', hd'⟩ := Heap.dictOf_iff.mp hm'
  have N1 := News.push F N { cls := .type "dict", data := .dict #[] }
  exact k _ h' o' ((F.push _).change hs (N1 _ (.head _)).2.1 (N1.fresh (.head _))) (N1.setHead N.apart hs ho') (fun p hp => Heap.lt_size (N p hp).1) (F.notModules (modules_low hbig)) hd'
end
end Mine
end
section
open PySem PySem.W PyProof.Rows
set_option Elab.async false
set_option maxRecDepth 100000
set_option maxHeartbeats 8000000
set_option pp.deepTerms false
set_option pp.proofs.threshold 0
set_option linter.unusedSimpArgs false
namespace Mine
theorem c_next (w : World) (ee du : Addr) (oe : Obj) (t : Int) (sp : Str) (k1 k2 : Tok) (hd : oe.IsDictOf (strKind PySem.Challenge.rw_sj0109_01.row.prog w) []) (lo : (ee == sysModules) = false) :
    Ctr w 5 62 [.ref ee, .ref du, .bool false] [] [(ee, oe), (du, { cls := .type "tuple", data := .seq #[.int t k1, .str sp k2] })] (fun r mt' new => ∃ a k3 k4 k5, r = .ref a ∧ new = [(a, { cls := .type "tuple", data := .seq #[.int t k3, .str sp k4, .str (Str.ofString "probe") k5] })]) := by
  k_with_none
  k_with "LTF" => (with_reducible first | (apply And.left; assumption) | (apply And.left; apply And.right; assumption) | (apply And.right; assumption) | (apply And.left; apply And.right; apply And.right; assumption) | (apply And.right; apply And.right; assumption) | (apply And.left; apply And.right; apply And.right; apply And.right; assumption) | (apply And.right; apply And.right; apply And.right; assumption) | (apply And.left; apply And.right; apply And.right; apply And.right; apply And.right; assumption) | (apply And.right; apply And.right; apply And.right; apply And.right; assumption) | (apply And.left; apply And.right; apply And.right; apply And.right; apply And.right; apply And.right; assumption) | (apply And.right; apply And.right; apply And.right; apply And.right; apply And.right; assumption) | (apply And.left; apply And.right; apply And.right; apply And.right; apply And.right; apply And.right; apply And.right; assumption) | (apply And.right; apply And.right; apply And.right; apply And.right; apply And.right; apply And.right; assumption) | (apply And.left; apply And.right; apply And.right; apply And.right; apply And.right; apply And.right; apply And.right; apply And.right; assumption) | (apply And.right; apply And.right; apply And.right; apply And.right; apply And.right; apply And.right; apply And.right; assumption) | (apply And.left; apply And.right; apply And.right; apply And.right; apply And.right; apply And.right; apply And.right; apply And.right; apply And.right; assumption) | (apply And.right; apply And.right; apply And.right; apply And.right; apply And.right; apply And.right; apply And.right; apply And.right; assumption) | (apply And.left; apply And.right; apply And.right; apply And.right; apply And.right; apply And.right; apply And.right; apply And.right; apply And.right; apply And.right; assumption) | (apply And.right; apply And.right; apply And.right; apply And.right; apply And.right; apply And.right; apply And.right; apply And.right; apply And.right; assumption) | (apply And.left; apply And.right; apply And.right; apply And.right; apply And.right; apply And.right; apply And.right; apply And.right; apply And.right; apply And.right; apply And.right; assumption) | (apply And.right; apply And.right; apply And.right; apply And.right; apply And.right; apply And.right; apply And.right; apply And.right; apply And.right; apply And.right; assumption) | (apply And.left; apply And.right; apply And.right; apply And.right; apply And.right; apply And.right; apply And.right; apply And.right; apply And.right; apply And.right; apply And.right; apply And.right; assumption) | (apply And.right; apply And.right; apply And.right; apply And.right; apply And.right; apply And.right; apply And.right; apply And.right; apply And.right; apply And.right; apply And.right; assumption) | (apply And.left; apply And.right; apply And.right; apply And.right; apply And.right; apply And.right; apply And.right; apply And.right; apply And.right; apply And.right; apply And.right; apply And.right; apply And.right; assumption) | (apply And.right; apply And.right; apply And.right; apply And.right; apply And.right; apply And.right; apply And.right; apply And.right; apply And.right; apply And.right; apply And.right; apply And.right; assumption))
  k_with "exec For Name Name cons nil" => ((k_here; (rename Fr _ _ _ _ => lF'); (with_unfolding_all refine' For_turnsG lF' ?g_r1 ?_; (case g_r1 => exact rfl); k_whole)))
  unfold Ctr
  k_fill
  intro dp un gd cn cs a ccd cl outer A₀ base h₀ L m s Q E mean mg mb B F X N T hk hdp hun hret
  have N0 := N
  clear N
  have N := N0
  simp only [List.nil_append, List.cons_append] at N
  k_dflt (refine' callR ?k1 ?k2 ?k3 ?k4 ?k5 ?kA ?kF ?kK ?k6 ?k7 ?k8 ?k9 ?kB ?_ ?c2 ?c3 ?c4 ?c5; (case kA => exact rfl); (case kF => exact rfl); (case kK => assumption); (case k1 => k_asm); (case k2 => k_asm); (case k3 => k_asm); (case k4 => k_asm); (case k5 => k_asm); (case k6 => k_is); (case k7 => k_is); (case k8 => ktr_room); (case k9 => exact BindsTo.of_eq rfl); (case c5 => decide); (case kB => exact locs rfl); (case c2 => exact rfl); (case c3 => exact rfl); (case c4 => exact rfl); k_whole; intro g' L' h' hg' FG' F' N' B' X' T'; (try dsimp only); (try k_fold))
  k_steps
  all_goals (refine' ctr_fin hret N0 ?hg ?hN ?hk [] [(_, _)] ?hm ?hs ?ho ⟨_, _, _, _, rfl, rfl⟩; (case hg => assumption); (case hN => assumption); (case hk => assumption); (case hs => k_subL); (case hm => rfl); (case ho => simp only [List.forall_mem_cons, List.nil_append, List.cons_append, List.not_mem_nil, false_implies, implies_true, and_true, true_and] <;> (repeat' (first | apply And.intro | k_ne))))
end Mine
end
section
open PySem PySem.W PyProof.Rows
set_option Elab.async false
set_option maxRecDepth 100000
set_option maxHeartbeats 8000000
set_option pp.deepTerms false
set_option pp.proofs.threshold 0
set_option linter.unusedSimpArgs false
namespace Mine
theorem c_idle_wait (w : World) (ow pe pw : Int) (t1 t2 t3 : Tok) :
    Ctr w 4 67 [.int ow t1, .int pe t2, .int pw t3] [] [] (fun r _ new => new = [] ∧ ((r = .none ∧ waitOf ow pe pw = none) ∨ ∃ v t, r = .int v t ∧ waitOf ow pe pw = some v)) := by
  k_with_none
  k_with "LTF" => (with_reducible first | (apply And.left; assumption) | (apply And.left; apply And.right; assumption) | (apply And.right; assumption) | (apply And.left; apply And.right; apply And.right; assumption) | (apply And.right; apply And.right; assumption) | (apply And.left; apply And.right; apply And.right; apply And.right; assumption) | (apply And.right; apply And.right; apply And.right; assumption) | (apply And.left; apply And.right; apply And.right; apply And.right; apply And.right; assumption) | (apply And.right; apply And.right; apply And.right; apply And.right; assumption) | (apply And.left; apply And.right; apply And.right; apply And.right; apply And.right; apply And.right; assumption) | (apply And.right; apply And.right; apply And.right; apply And.right; apply And.right; assumption) | (apply And.left; apply And.right; apply And.right; apply And.right; apply And.right; apply And.right; apply And.right; assumption) | (apply And.right; apply And.right; apply And.right; apply And.right; apply And.right; apply And.right; assumption) | (apply And.left; apply And.right; apply And.right; apply And.right; apply And.right; apply And.right; apply And.right; apply And.right; assumption) | (apply And.right; apply And.right; apply And.right; apply And.right; apply And.right; apply And.right; apply And.right; assumption) | (apply And.left; apply And.right; apply And.right; apply And.right; apply And.right; apply And.right; apply And.right; apply And.right; apply And.right; assumption) | (apply And.right; apply And.right; apply And.right; apply And.right; apply And.right; apply And.right; apply And.right; apply And.right; assumption) | (apply And.left; apply And.right; apply And.right; apply And.right; apply And.right; apply And.right; apply And.right; apply And.right; apply And.right; apply And.right; assumption) | (apply And.right; apply And.right; apply And.right; apply And.right; apply And.right; apply And.right; apply And.right; apply And.right; apply And.right; assumption) | (apply And.left; apply And.right; apply And.right; apply And.right; apply And.right; apply And.right; apply And.right; apply And.right; apply And.right; apply And.right; apply And.right; assumption) | (apply And.right; apply And.right; apply And.right; apply And.right; apply And.right; apply And.right; apply And.right; apply And.right; apply And.right; apply And.right; assumption) | (apply And.left; apply And.right; apply And.right; apply And.right; apply And.right; apply And.right; apply And.right; apply And.right; apply And.right; apply And.right; apply And.right; apply And.right; assumption) | (apply And.right; apply And.right; apply And.right; apply And.right; apply And.right; apply And.right; apply And.right; apply And.right; apply And.right; apply And.right; apply And.right; assumption) | (apply And.left; apply And.right; apply And.right; apply And.right; apply And.right; apply And.right; apply And.right; apply And.right; apply And.right; apply And.right; apply And.right; apply And.right; apply And.right; assumption) | (apply And.right; apply And.right; apply And.right; apply And.right; apply And.right; apply And.right; apply And.right; apply And.right; apply And.right; apply And.right; apply And.right; apply And.right; assumption))
  k_with "exec For Name Name cons nil" => ((k_here; (rename Fr _ _ _ _ => lF'); (with_unfolding_all refine' For_turnsG lF' ?g_r1 ?_; (case g_r1 => exact rfl); k_whole)))
  k_with "eval ListComp" => ((k_here; k_dflt (refine ListComp_tup (F₀ := by k_asm) (by with_unfolding_all rfl) (by decide) (by rfl) (by decide) (by rfl) ?_)))
  k_with "exec Assign cons ListComp" => ((k_here; k_dflt (refine Assign_ListComp_tup (F₀ := by k_asm) (by rfl) (by with_unfolding_all rfl) (by with_unfolding_all rfl) (by decide) (by rfl) (by decide) (by rfl) (by rfl) (by rfl) ?_)))
  k_with "SrcTup" => ((k_here; k_dflt (first
  | (refine SrcTup.ledger (by rfl) (by k_asm) (by k_asm) (by k_mem) (by first | size_fits | exact Nat.le_of_ble_eq_true rfl) ?_; intro g'; lcg_lit)
  | (refine' SrcTup.base ?hh_r4 ?F_r4 ?N_r4 ?X_r4 ?k_r4 ?c_r4 ?d_r4 ?z_r4 ?_; (case hh_r4 => rfl); (case F_r4 => k_asm); (case N_r4 => k_asm); (case X_r4 => k_asm); (case k_r4 => k_is); (case c_r4 => rfl); (case d_r4 => exact rfl); (case z_r4 => first | size_fits | exact Nat.le_of_ble_eq_true rfl); intro hT g'; lcg_lit))))
  k_with "SrcTupT" => ((k_here; k_dflt (refine SrcTupT.ledger (by rfl) (by k_asm) (by k_asm) (by k_mem) (by first | size_fits | exact Nat.le_of_ble_eq_true rfl) ?_; intro g'; lct_lit)))
  unfold Ctr
  k_fill
  intro dp un gd cn cs a ccd cl outer A₀ base h₀ L m s Q E mean mg mb B F X N T hk hdp hun hret
  have N0 := N
  clear N
  have N := N0
  simp only [List.nil_append, List.cons_append] at N
  k_dflt (refine' callR ?k1 ?k2 ?k3 ?k4 ?k5 ?kA ?kF ?kK ?k6 ?k7 ?k8 ?k9 ?kB ?_ ?c2 ?c3 ?c4 ?c5; (case kA => exact rfl); (case kF => exact rfl); (case kK => assumption); (case k1 => k_asm); (case k2 => k_asm); (case k3 => k_asm); (case k4 => k_asm); (case k5 => k_asm); (case k6 => k_is); (case k7 => k_is); (case k8 => ktr_room); (case k9 => exact BindsTo.of_eq rfl); (case c5 => decide); (case kB => exact locs rfl); (case c2 => exact rfl); (case c3 => exact rfl); (case c4 => exact rfl); k_whole; intro g' L' h' hg' FG' F' N' B' X' T'; (try dsimp only); (try k_fold))
  k_steps
  all_goals first
    | (refine' ctr_fin hret N0 ?hg ?hN ?hk [] [] ?hm ?hs ?ho ⟨rfl, .inl ⟨rfl, ?q1⟩⟩; (case hg => assumption); (case hN => assumption); (case hk => assumption); (case hm => rfl); (case hs => k_subL); (case ho => simp only [List.forall_mem_cons, List.nil_append, List.cons_append, List.not_mem_nil, false_implies, implies_true, and_true, true_and] <;> (repeat' (first | apply And.intro | k_ne))); (case q1 => unfold waitOf; (repeat' split) <;> first | rfl | omega | (refine congrArg some ?_; omega)))
    | (refine' ctr_fin hret N0 ?hg ?hN ?hk [] [] ?hm ?hs ?ho ⟨rfl, .inr ⟨_, _, rfl, ?q1⟩⟩; (case hg => assumption); (case hN => assumption); (case hk => assumption); (case hm => rfl); (case hs => k_subL); (case ho => simp only [List.forall_mem_cons, List.nil_append, List.cons_append, List.not_mem_nil, false_implies, implies_true, and_true, true_and] <;> (repeat' (first | apply And.intro | k_ne))); (case q1 => unfold waitOf; (repeat' split) <;> first | rfl | omega | (refine congrArg some ?_; omega)))
end Mine
end
section
open PySem PySem.W PyProof.Rows
set_option Elab.async false
set_option maxRecDepth 100000
set_option maxHeartbeats 8000000
set_option pp.deepTerms false
set_option pp.proofs.threshold 0
set_option linter.unusedSimpArgs false
namespace Mine
theorem c_deadline (w : World) (x dx : Addr) (k1 k2 k3 k4 q1 q2 q3 : Tok) (ow pe si : Int) (ha : Bool) (pw : Int) (t1 : Tok) :
    Ctr w 6 109 [.ref x, .int pw t1] [] [(x, instObj 126 dx), (dx, (dictOf [⟨PyData.keyHash w.params (Str.ofString "own"), .str (Str.ofString "own") k1, .int ow q1⟩, ⟨PyData.keyHash w.params (Str.ofString "peer"), .str (Str.ofString "peer") k2, .int pe q2⟩, ⟨PyData.keyHash w.params (Str.ofString "since"), .str (Str.ofString "since") k3, .int si q3⟩, ⟨PyData.keyHash w.params (Str.ofString "has_asked"), .str (Str.ofString "has_asked") k4, .bool ha⟩] 4))] (fun r mt' new => new = [] ∧ ((r = .none ∧ waitOf ow pe pw = none) ∨ ∃ v t, r = .int (si + v) t ∧ waitOf ow pe pw = some v)) := by
  k_with_none
  k_with "LTF" => (with_reducible first | (apply And.left; assumption) | (apply And.left; apply And.right; assumption) | (apply And.right; assumption) | (apply And.left; apply And.right; apply And.right; assumption) | (apply And.right; apply And.right; assumption) | (apply And.left; apply And.right; apply And.right; apply And.right; assumption) | (apply And.right; apply And.right; apply And.right; assumption) | (apply And.left; apply And.right; apply And.right; apply And.right; apply And.right; assumption) | (apply And.right; apply And.right; apply And.right; apply And.right; assumption) | (apply And.left; apply And.right; apply And.right; apply And.right; apply And.right; apply And.right; assumption) | (apply And.right; apply And.right; apply And.right; apply And.right; apply And.right; assumption) | (apply And.left; apply And.right; apply And.right; apply And.right; apply And.right; apply And.right; apply And.right; assumption) | (apply And.right; apply And.right; apply And.right; apply And.right; apply And.right; apply And.right; assumption) | (apply And.left; apply And.right; apply And.right; apply And.right; apply And.right; apply And.right; apply And.right; apply And.right; assumption) | (apply And.right; apply And.right; apply And.right; apply And.right; apply And.right; apply And.right; apply And.right; assumption) | (apply And.left; apply And.right; apply And.right; apply And.right; apply And.right; apply And.right; apply And.right; apply And.right; apply And.right; assumption) | (apply And.right; apply And.right; apply And.right; apply And.right; apply And.right; apply And.right; apply And.right; apply And.right; assumption) | (apply And.left; apply And.right; apply And.right; apply And.right; apply And.right; apply And.right; apply And.right; apply And.right; apply And.right; apply And.right; assumption) | (apply And.right; apply And.right; apply And.right; apply And.right; apply And.right; apply And.right; apply And.right; apply And.right; apply And.right; assumption) | (apply And.left; apply And.right; apply And.right; apply And.right; apply And.right; apply And.right; apply And.right; apply And.right; apply And.right; apply And.right; apply And.right; assumption) | (apply And.right; apply And.right; apply And.right; apply And.right; apply And.right; apply And.right; apply And.right; apply And.right; apply And.right; apply And.right; assumption) | (apply And.left; apply And.right; apply And.right; apply And.right; apply And.right; apply And.right; apply And.right; apply And.right; apply And.right; apply And.right; apply And.right; apply And.right; assumption) | (apply And.right; apply And.right; apply And.right; apply And.right; apply And.right; apply And.right; apply And.right; apply And.right; apply And.right; apply And.right; apply And.right; assumption) | (apply And.left; apply And.right; apply And.right; apply And.right; apply And.right; apply And.right; apply And.right; apply And.right; apply And.right; apply And.right; apply And.right; apply And.right; apply And.right; assumption) | (apply And.right; apply And.right; apply And.right; apply And.right; apply And.right; apply And.right; apply And.right; apply And.right; apply And.right; apply And.right; apply And.right; apply And.right; assumption))
  k_with "exec For Name Name cons nil" => ((k_here; (rename Fr _ _ _ _ => lF'); (with_unfolding_all refine' For_turnsG lF' ?g_r1 ?_; (case g_r1 => exact rfl); k_whole)))
  k_with "call ref" => ((k_here; k_dflt (refine' ctr_pure (c_idle_wait _ _ _ _ _ _ _) ?k1_r2 ?k2_r2 ?k3_r2 ?k4_r2 ?k5_r2 ?kK_r2 ?kd_r2 ?ku_r2 ?ks_r2 ?_; (case k1_r2 => k_asm); (case k2_r2 => k_asm); (case k3_r2 => k_asm); (case k4_r2 => k_asm); (case k5_r2 => k_asm); (case kK_r2 => first | exact rfl | assumption); (case ks_r2 => k_subL); (case kd_r2 => ktr_room); (case ku_r2 => ktr_units); k_whole); intro r9 new9 h9 tk9 P9 F9 N9 D9; obtain ⟨e9, P9x⟩ := P9; subst e9; (try simp only [List.nil_append] at N9); clear D9; (rcases P9x with ⟨e9, P9⟩ | ⟨v9, u9, e9, P9⟩ <;> subst e9); (try dsimp only); (try k_fold)))
  unfold Ctr
  k_fill
  intro dp un gd cn cs a ccd cl outer A₀ base h₀ L m s Q E mean mg mb B F X N T hk hdp hun hret
  have N0 := N
  clear N
  have N := N0
  simp only [List.nil_append, List.cons_append] at N
  k_dflt (refine' callR ?k1 ?k2 ?k3 ?k4 ?k5 ?kA ?kF ?kK ?k6 ?k7 ?k8 ?k9 ?kB ?_ ?c2 ?c3 ?c4 ?c5; (case kA => exact rfl); (case kF => exact rfl); (case kK => assumption); (case k1 => k_asm); (case k2 => k_asm); (case k3 => k_asm); (case k4 => k_asm); (case k5 => k_asm); (case k6 => k_is); (case k7 => k_is); (case k8 => ktr_room); (case k9 => exact BindsTo.of_eq rfl); (case c5 => decide); (case kB => exact locs rfl); (case c2 => exact rfl); (case c3 => exact rfl); (case c4 => exact rfl); k_whole; intro g' L' h' hg' FG' F' N' B' X' T'; (try dsimp only); (try k_fold))
  k_steps
  all_goals first
    | (refine' ctr_fin hret N0 ?hg ?hN ?hk [] [] ?hm ?hs ?ho ⟨rfl, .inl ⟨rfl, ?q1⟩⟩; (case hg => assumption); (case hN => assumption); (case hk => assumption); (case hm => rfl); (case hs => k_subL); (case ho => simp only [List.forall_mem_cons, List.nil_append, List.cons_append, List.not_mem_nil, false_implies, implies_true, and_true, true_and] <;> (repeat' (first | apply And.intro | k_ne))); (case q1 => assumption))
    | (refine' ctr_fin hret N0 ?hg ?hN ?hk [] [] ?hm ?hs ?ho ⟨rfl, .inr ⟨_, _, rfl, ?q1⟩⟩; (case hg => assumption); (case hN => assumption); (case hk => assumption); (case hm => rfl); (case hs => k_subL); (case ho => simp only [List.forall_mem_cons, List.nil_append, List.cons_append, List.not_mem_nil, false_implies, implies_true, and_true, true_and] <;> (repeat' (first | apply And.intro | k_ne))); (case q1 => assumption))
end Mine
end
section
open PySem PySem.W PyProof.Rows
set_option Elab.async false
set_option maxRecDepth 100000
set_option maxHeartbeats 8000000
set_option pp.deepTerms false
set_option pp.proofs.threshold 0
set_option linter.unusedSimpArgs false
namespace Mine
theorem c_is_over (w : World) (x dx : Addr) (k1 k2 k3 k4 q1 q2 q3 : Tok) (ow pe si : Int) (ha : Bool) (pw nw : Int) (t1 t2 : Tok) :
    Ctr w 9 116 [.ref x, .int nw t2, .int pw t1] [] [(x, instObj 126 dx), (dx, (dictOf [⟨PyData.keyHash w.params (Str.ofString "own"), .str (Str.ofString "own") k1, .int ow q1⟩, ⟨PyData.keyHash w.params (Str.ofString "peer"), .str (Str.ofString "peer") k2, .int pe q2⟩, ⟨PyData.keyHash w.params (Str.ofString "since"), .str (Str.ofString "since") k3, .int si q3⟩, ⟨PyData.keyHash w.params (Str.ofString "has_asked"), .str (Str.ofString "has_asked") k4, .bool ha⟩] 4))] (fun r mt' new => new = [] ∧ r = .bool (overAt ow pe pw si nw)) := by
  k_with_none
  k_with "LTF" => (with_reducible first | (apply And.left; assumption) | (apply And.left; apply And.right; assumption) | (apply And.right; assumption) | (apply And.left; apply And.right; apply And.right; assumption) | (apply And.right; apply And.right; assumption) | (apply And.left; apply And.right; apply And.right; apply And.right; assumption) | (apply And.right; apply And.right; apply And.right; assumption) | (apply And.left; apply And.right; apply And.right; apply And.right; apply And.right; assumption) | (apply And.right; apply And.right; apply And.right; apply And.right; assumption) | (apply And.left; apply And.right; apply And.right; apply And.right; apply And.right; apply And.right; assumption) | (apply And.right; apply And.right; apply And.right; apply And.right; apply And.right; assumption) | (apply And.left; apply And.right; apply And.right; apply And.right; apply And.right; apply And.right; apply And.right; assumption) | (apply And.right; apply And.right; apply And.right; apply And.right; apply And.right; apply And.right; assumption) | (apply And.left; apply And.right; apply And.right; apply And.right; apply And.right; apply And.right; apply And.right; apply And.right; assumption) | (apply And.right; apply And.right; apply And.right; apply And.right; apply And.right; apply And.right; apply And.right; assumption) | (apply And.left; apply And.right; apply And.right; apply And.right; apply And.right; apply And.right; apply And.right; apply And.right; apply And.right; assumption) | (apply And.right; apply And.right; apply And.right; apply And.right; apply And.right; apply And.right; apply And.right; apply And.right; assumption) | (apply And.left; apply And.right; apply And.right; apply And.right; apply And.right; apply And.right; apply And.right; apply And.right; apply And.right; apply And.right; assumption) | (apply And.right; apply And.right; apply And.right; apply And.right; apply And.right; apply And.right; apply And.right; apply And.right; apply And.right; assumption) | (apply And.left; apply And.right; apply And.right; apply And.right; apply And.right; apply And.right; apply And.right; apply And.right; apply And.right; apply And.right; apply And.right; assumption) | (apply And.right; apply And.right; apply And.right; apply And.right; apply And.right; apply And.right; apply And.right; apply And.right; apply And.right; apply And.right; assumption) | (apply And.left; apply And.right; apply And.right; apply And.right; apply And.right; apply And.right; apply And.right; apply And.right; apply And.right; apply And.right; apply And.right; apply And.right; assumption) | (apply And.right; apply And.right; apply And.right; apply And.right; apply And.right; apply And.right; apply And.right; apply And.right; apply And.right; apply And.right; apply And.right; assumption) | (apply And.left; apply And.right; apply And.right; apply And.right; apply And.right; apply And.right; apply And.right; apply And.right; apply And.right; apply And.right; apply And.right; apply And.right; apply And.right; assumption) | (apply And.right; apply And.right; apply And.right; apply And.right; apply And.right; apply And.right; apply And.right; apply And.right; apply And.right; apply And.right; apply And.right; apply And.right; assumption))
  k_with "exec For Name Name cons nil" => ((k_here; (rename Fr _ _ _ _ => lF'); (with_unfolding_all refine' For_turnsG lF' ?g_r1 ?_; (case g_r1 => exact rfl); k_whole)))
  k_with "call ref" => ((k_here; k_dflt (refine' ctr_pure (c_deadline _ _ _ _ _ _ _ _ _ _ _ _ _ _ _ _) ?k1_r2 ?k2_r2 ?k3_r2 ?k4_r2 ?k5_r2 ?kK_r2 ?kd_r2 ?ku_r2 ?ks_r2 ?_; (case k1_r2 => k_asm); (case k2_r2 => k_asm); (case k3_r2 => k_asm); (case k4_r2 => k_asm); (case k5_r2 => k_asm); (case kK_r2 => first | exact rfl | assumption); (case ks_r2 => k_subL); (case kd_r2 => ktr_room); (case ku_r2 => ktr_units); k_whole); intro r9 new9 h9 tk9 P9 F9 N9 D9; obtain ⟨e9, P9x⟩ := P9; subst e9; (try simp only [List.nil_append] at N9); clear D9; (rcases P9x with ⟨e9, P9⟩ | ⟨v9, u9, e9, P9⟩ <;> subst e9); (try dsimp only); (try k_fold)))
  unfold Ctr
  k_fill
  intro dp un gd cn cs a ccd cl outer A₀ base h₀ L m s Q E mean mg mb B F X N T hk hdp hun hret
  have N0 := N
  clear N
  have N := N0
  simp only [List.nil_append, List.cons_append] at N
  k_dflt (refine' callR ?k1 ?k2 ?k3 ?k4 ?k5 ?kA ?kF ?kK ?k6 ?k7 ?k8 ?k9 ?kB ?_ ?c2 ?c3 ?c4 ?c5; (case kA => exact rfl); (case kF => exact rfl); (case kK => assumption); (case k1 => k_asm); (case k2 => k_asm); (case k3 => k_asm); (case k4 => k_asm); (case k5 => k_asm); (case k6 => k_is); (case k7 => k_is); (case k8 => ktr_room); (case k9 => exact BindsTo.of_eq rfl); (case c5 => decide); (case kB => exact locs rfl); (case c2 => exact rfl); (case c3 => exact rfl); (case c4 => exact rfl); k_whole; intro g' L' h' hg' FG' F' N' B' X' T'; (try dsimp only); (try k_fold))
  k_steps
  all_goals (refine' ctr_fin hret N0 ?hg ?hN ?hk [] [] ?hm ?hs ?ho ⟨rfl, ?q1⟩; (case hg => assumption); (case hN => assumption); (case hk => assumption); (case hm => rfl); (case hs => k_subL); (case ho => simp only [List.forall_mem_cons, List.nil_append, List.cons_append, List.not_mem_nil, false_implies, implies_true, and_true, true_and] <;> (repeat' (first | apply And.intro | k_ne))); (case q1 => refine congrArg Value.bool ?_; (rename waitOf _ _ _ = _ => hw); unfold overAt; rw [hw]))
end Mine
end
section
open PySem PySem.W PyProof.Rows
set_option Elab.async false
set_option maxRecDepth 100000
set_option maxHeartbeats 8000000
set_option pp.deepTerms false
set_option pp.proofs.threshold 0
set_option linter.unusedSimpArgs false
namespace Mine
local macro_rules | `(tactic| k_all) => `(tactic| assumption)
theorem c_probes (w : World) (x dx d : Addr) (k1 k2 k3 k4 q1 q2 : Tok) (ow pe : Int) (sv : Value) (o : Obj) (l0 : Ask) (b dl now : Int) (stop : Nat) (t1 t2 t3 : Tok) (hxd : @LT.lt Nat _ dx x) (hdx : @Ne Nat d dx) (hd : o.IsDictOf (strKind PySem.Challenge.rw_sj0109_01.row.prog w) (kv l0)) (lo : (d == sysModules) = false)
    (ok : AskOk l0 now b) (hb : 0 < b) (hb' : b < 2 ^ 20) (hl : 0 ≤ dl) (hl' : dl < 2 ^ 20) (hstop : stop ≤ 9) :
    Ctr w 20 215 [.ref d, .int b t1, .int dl t2, .ref x, .int stop t3] [(dx, (dictOf [⟨PyData.keyHash w.params (Str.ofString "own"), .str (Str.ofString "own") k1, .int ow q1⟩, ⟨PyData.keyHash w.params (Str.ofString "peer"), .str (Str.ofString "peer") k2, .int pe q2⟩, ⟨PyData.keyHash w.params (Str.ofString "since"), .str (Str.ofString "since") k3, sv⟩, ⟨PyData.keyHash w.params (Str.ofString "has_asked"), .str (Str.ofString "has_asked") k4, .bool false⟩] 4))] [(x, instObj 126 dx), (d, o)] (fun r mt' new => ∃ tl e q TT, r = .ref tl ∧ mt' = [(dx, (dictOf [⟨PyData.keyHash w.params (Str.ofString "own"), .str (Str.ofString "own") k1, .int ow q1⟩, ⟨PyData.keyHash w.params (Str.ofString "peer"), .str (Str.ofString "peer") k2, .int pe q2⟩, ⟨PyData.keyHash w.params (Str.ofString "since"), .str (Str.ofString "since") k3, .int (minT l0) q⟩, ⟨PyData.keyHash w.params (Str.ofString "has_asked"), .str (Str.ofString "has_asked") k4, .bool true⟩] 4))] ∧ new = (tl, toldObj TT e) :: TT.map teObj ∧ ToldOk l0 b dl ow pe stop (TT.map teVal)) := by
  k_with_none
  k_with "LTF" => (with_reducible first | (apply And.left; assumption) | (apply And.left; apply And.right; assumption) | (apply And.right; assumption) | (apply And.left; apply And.right; apply And.right; assumption) | (apply And.right; apply And.right; assumption) | (apply And.left; apply And.right; apply And.right; apply And.right; assumption) | (apply And.right; apply And.right; apply And.right; assumption) | (apply And.left; apply And.right; apply And.right; apply And.right; apply And.right; assumption) | (apply And.right; apply And.right; apply And.right; apply And.right; assumption) | (apply And.left; apply And.right; apply And.right; apply And.right; apply And.right; apply And.right; assumption) | (apply And.right; apply And.right; apply And.right; apply And.right; apply And.right; assumption) | (apply And.left; apply And.right; apply And.right; apply And.right; apply And.right; apply And.right; apply And.right; assumption) | (apply And.right; apply And.right; apply And.right; apply And.right; apply And.right; apply And.right; assumption) | (apply And.left; apply And.right; apply And.right; apply And.right; apply And.right; apply And.right; apply And.right; apply And.right; assumption) | (apply And.right; apply And.right; apply And.right; apply And.right; apply And.right; apply And.right; apply And.right; assumption) | (apply And.left; apply And.right; apply And.right; apply And.right; apply And.right; apply And.right; apply And.right; apply And.right; apply And.right; assumption) | (apply And.right; apply And.right; apply And.right; apply And.right; apply And.right; apply And.right; apply And.right; apply And.right; assumption) | (apply And.left; apply And.right; apply And.right; apply And.right; apply And.right; apply And.right; apply And.right; apply And.right; apply And.right; apply And.right; assumption) | (apply And.right; apply And.right; apply And.right; apply And.right; apply And.right; apply And.right; apply And.right; apply And.right; apply And.right; assumption) | (apply And.left; apply And.right; apply And.right; apply And.right; apply And.right; apply And.right; apply And.right; apply And.right; apply And.right; apply And.right; apply And.right; assumption) | (apply And.right; apply And.right; apply And.right; apply And.right; apply And.right; apply And.right; apply And.right; apply And.right; apply And.right; apply And.right; assumption) | (apply And.left; apply And.right; apply And.right; apply And.right; apply And.right; apply And.right; apply And.right; apply And.right; apply And.right; apply And.right; apply And.right; apply And.right; assumption) | (apply And.right; apply And.right; apply And.right; apply And.right; apply And.right; apply And.right; apply And.right; apply And.right; apply And.right; apply And.right; apply And.right; assumption) | (apply And.left; apply And.right; apply And.right; apply And.right; apply And.right; apply And.right; apply And.right; apply And.right; apply And.right; apply And.right; apply And.right; apply And.right; apply And.right; assumption) | (apply And.right; apply And.right; apply And.right; apply And.right; apply And.right; apply And.right; apply And.right; apply And.right; apply And.right; apply And.right; apply And.right; apply And.right; assumption))
  k_with "exec For Name Name cons nil" => ((k_here; (rename Fr _ _ _ _ => lF'); (with_unfolding_all refine' For_turnsG lF' ?g_r1 ?_; (case g_r1 => exact rfl); k_whole)))
  k_with "call type:dict" => ((k_here; (with_reducible show wpAny _ _ (call (Value.type "dict") [Value.ref _]) _ _ _); k_dflt (refine' dictCopy (knd := PySem.strKind _ _) ?a_r2 ?b_r2 (Top.nolimit (by k_asm)) ?c_r2 ?d_r2 ?e_r2 ?z_r2 ?_; (case a_r2 => k_asm); (case b_r2 => k_asm); (case c_r2 => k_mem); (case d_r2 => assumption); (case e_r2 => assumption); (case z_r2 => first | assumption | (rw [sizeLine_eq]; exact Nat.le_of_ble_eq_true (by with_unfolding_all rfl)))); intro d' h' o' F' N' l1 lo' hd'; (try k_lt l1)))
  k_with "call builtin:sorted" => ((k_here; (with_reducible show wpAny _ _ (call (Value.builtin "sorted") [Value.ref _]) _ _ _); k_dflt (refine' vals_sorted (by rfl) ?F_r3 ?N_r3 ?v_r3 ?p_r3 ?d_r3 ?ne_r3 ?l_r3 ?_; (case F_r3 => k_asm); (case N_r3 => k_asm); (case v_r3 => k_mem); (case p_r3 => k_mem); (case d_r3 => assumption); (case ne_r3 => assumption); (case l_r3 => assumption)); intro B' out' ns' h' tk' hI' hP' hS' F' N' l1; (try k_lt l1); (obtain ⟨t8, e8⟩ | ⟨t8, b8, u8, e8⟩ | ⟨t8, b8, u8, c8, v8, e8⟩ := out_cases hI' hP' hS' (by assumption) (by assumption)) <;> (subst e8; clear hI' hP' hS')))
  k_with "call builtin:max" => ((k_here; (with_reducible show wpAny _ _ (call (Value.builtin "max") [Value.ref _]) _ _ _); k_dflt (refine' vals_max (by rfl) ?F_r4 ?N_r4 ?v_r4 ?p_r4 ?d_r4 ?ne_r4 ?_; (case F_r4 => k_asm); (case N_r4 => k_asm); (case v_r4 => k_mem); (case p_r4 => k_mem); (case d_r4 => assumption); (case ne_r4 => assumption)); intro h' tk' t' F' N'))
  k_with "call builtin:min" => ((k_here; (with_reducible show wpAny _ _ (call (Value.builtin "min") [Value.ref _]) _ _ _); k_dflt (refine' vals_min (by rfl) ?F_r5 ?N_r5 ?v_r5 ?p_r5 ?d_r5 ?ne_r5 ?_; (case F_r5 => k_asm); (case N_r5 => k_asm); (case v_r5 => k_mem); (case p_r5 => k_mem); (case d_r5 => assumption); (case ne_r5 => assumption)); intro h' tk' t' F' N'))
  k_with "call ref" => ((k_here; k_dflt (refine' ctr_mut (c_on_sent_f _ _ _ _ _ _ _ _ _ _ _ _ ?h1_r6 _ _) ?k1_r6 ?k2_r6 ?k3_r6 ?k4_r6 ?k5_r6 ?kK_r6 ?kd_r6 ?ku_r6 ?ks_r6 ?_; (case k1_r6 => k_asm); (case k2_r6 => k_asm); (case k3_r6 => k_asm); (case k4_r6 => k_asm); (case k5_r6 => k_asm); (case kK_r6 => first | exact rfl | assumption); (case ks_r6 => k_subL); (case h1_r6 => first | assumption | omega); (case kd_r6 => ktr_room); (case ku_r6 => ktr_units); k_whole); intro r9 o9 new9 h9 tk9 P9 F9 N9 D9; obtain ⟨e9, e9r, e9m⟩ := P9; subst e9 e9r; (have e9o := one_eq e9m); subst e9o; clear e9m D9; (replace N9 := N9 _ (by k_upd)); (simp only [List.nil_append] at N9); (try dsimp only); (try k_fold)))
  k_with "call ref" => ((k_here; k_dflt (refine' ctr_mut (c_on_sent_t _ _ _ _ _ _ _ _ _ _ _ _ ?h1_r7 _ _) ?k1_r7 ?k2_r7 ?k3_r7 ?k4_r7 ?k5_r7 ?kK_r7 ?kd_r7 ?ku_r7 ?ks_r7 ?_; (case k1_r7 => k_asm); (case k2_r7 => k_asm); (case k3_r7 => k_asm); (case k4_r7 => k_asm); (case k5_r7 => k_asm); (case kK_r7 => first | exact rfl | assumption); (case ks_r7 => k_subL); (case h1_r7 => first | assumption | omega); (case kd_r7 => ktr_room); (case ku_r7 => ktr_units); k_whole); intro r9 o9 new9 h9 tk9 P9 F9 N9 D9; obtain ⟨e9, e9r, e9m⟩ := P9; subst e9 e9r; (have e9o := one_eq e9m); subst e9o; clear e9m D9; (replace N9 := N9 _ (by k_upd)); (simp only [List.nil_append] at N9); (try dsimp only); (try k_fold)))
  k_with "call ref" => ((k_here; k_dflt (refine' ctr_pure (c_probe_period _ _ _ _ _ _ _ ?s1_r8 ?s2_r8 ?s3_r8 ?s4_r8 ?s5_r8 ?s6_r8) ?k1_r8 ?k2_r8 ?k3_r8 ?k4_r8 ?k5_r8 ?kK_r8 ?kd_r8 ?ku_r8 ?ks_r8 ?_; (case k1_r8 => k_asm); (case k2_r8 => k_asm); (case k3_r8 => k_asm); (case k4_r8 => k_asm); (case k5_r8 => k_asm); (case kK_r8 => first | exact rfl | assumption); (case ks_r8 => k_subL); (case s1_r8 => first | assumption | omega | l_fact); (case s2_r8 => first | assumption | omega | l_fact); (case s3_r8 => first | assumption | omega | l_fact); (case s4_r8 => first | assumption | omega | l_fact); (case s5_r8 => first | assumption | omega | l_fact); (case s6_r8 => first | assumption | omega | l_fact); (case kd_r8 => ktr_room); (case ku_r8 => ktr_units); k_whole); intro r9 new9 h9 tk9 P9 F9 N9 D9; obtain ⟨e9, t9, e9x⟩ := P9; subst e9 e9x; (try simp only [List.nil_append] at N9); clear D9; (try dsimp only); (try k_fold)))
  k_with "call builtin:len" => ((k_here; (with_reducible show wpAny _ _ (call (Value.builtin "len") [Value.ref _]) _ _ _); k_dflt (refine len_told (by k_asm) (by k_mem) (by assumption) ?_)))
  k_with "getMethod ref" => ((k_here; (with_reducible show wpAny _ _ (getMethod (Value.ref _) (Str.ofString "values") _) _ _ _); k_dflt (refine kdl_method (knd := PySem.strKind _ _) PySem.F.slot_dict_values PySem.F.type_dict_values (by k_asm) (by k_mem) (by assumption) ?_)))
  k_with "setItem ref str" => ((k_here; k_dflt (refine' kda_set (knd := PySem.strKind _ _) ?F_r11 ?N_r11 ?U_r11 ?d_r11 (strKind_is _ _ _ _) ?z_r11 ?_; (case F_r11 => k_asm); (case N_r11 => k_asm); (case U_r11 => k_updF); (case d_r11 => assumption); (case z_r11 => assumption)); intro h' o' F' N' hd'; (try dsimp only at N'); (rw [stored_kv (by assumption)] at hd')))
  k_with "call ref" => ((k_here; k_dflt (refine' ctr_pure (c_due _ _ _ _ _ _ _ _ _ _ _ _ ?h0_r12 ?h1_r12 ?h2_r12 ?s1_r12 ?s2_r12 ?s3_r12 ?s4_r12 ?s5_r12 ?s6_r12) ?k1_r12 ?k2_r12 ?k3_r12 ?k4_r12 ?k5_r12 ?kK_r12 ?kd_r12 ?ku_r12 ?ks_r12 ?_; (case k1_r12 => k_asm); (case k2_r12 => k_asm); (case k3_r12 => k_asm); (case k4_r12 => k_asm); (case k5_r12 => k_asm); (case kK_r12 => first | exact rfl | assumption); (case ks_r12 => k_subL); (case h0_r12 => assumption); (case h1_r12 => assumption); (case h2_r12 => assumption); (case s1_r12 => first | assumption | omega | l_fact); (case s2_r12 => first | assumption | omega | l_fact); (case s3_r12 => first | assumption | omega | l_fact); (case s4_r12 => first | assumption | omega | l_fact); (case s5_r12 => first | assumption | omega | l_fact); (case s6_r12 => first | assumption | omega | l_fact); (case kd_r12 => ktr_room); (case ku_r12 => ktr_units); k_whole); intro r9 new9 h9 tk9 P9 F9 N9 D9; obtain ⟨a9, t9, sp9, u9, v9, e9, e9x, P9, P9x⟩ := P9; subst e9 e9x; (simp only [List.cons_append, List.nil_append] at N9); (simp only [OffAll, OffNew, and_true] at D9); (obtain ⟨hm9, hs9, hi9⟩ := due_facts (by assumption) (by assumption) (by assumption) (by assumption) (by assumption) (by simp) P9 P9x); (try dsimp only); (try k_fold)))
  k_with "call ref" => ((k_here; k_dflt (refine' ctr_pure (c_next _ _ _ _ _ _ _ _ ?h1_r13 ?h2_r13) ?k1_r13 ?k2_r13 ?k3_r13 ?k4_r13 ?k5_r13 ?kK_r13 ?kd_r13 ?ku_r13 ?ks_r13 ?_; (case k1_r13 => k_asm); (case k2_r13 => k_asm); (case k3_r13 => k_asm); (case k4_r13 => k_asm); (case k5_r13 => k_asm); (case kK_r13 => first | exact rfl | assumption); (case ks_r13 => k_subL); (case h1_r13 => assumption); (case h2_r13 => assumption); (case kd_r13 => ktr_room); (case ku_r13 => ktr_units); k_whole); intro r9 new9 h9 tk9 P9 F9 N9 D9; obtain ⟨a9, t9, u9, v9, e9, e9x⟩ := P9; subst e9 e9x; (simp only [List.cons_append, List.nil_append] at N9); (simp only [OffAll, OffNew, and_true] at D9); (try dsimp only); (try k_fold)))
  k_with "call ref" => ((k_here; k_dflt (refine' ctr_pure (c_is_over _ _ _ _ _ _ _ _ _ _ _ _ _ _ _ _ _ _) ?k1_r14 ?k2_r14 ?k3_r14 ?k4_r14 ?k5_r14 ?kK_r14 ?kd_r14 ?ku_r14 ?ks_r14 ?_; (case k1_r14 => k_asm); (case k2_r14 => k_asm); (case k3_r14 => k_asm); (case k4_r14 => k_asm); (case k5_r14 => k_asm); (case kK_r14 => first | exact rfl | assumption); (case ks_r14 => k_subL); (case kd_r14 => ktr_room); (case ku_r14 => ktr_units); k_whole); intro r9 new9 h9 tk9 P9 F9 N9 D9; obtain ⟨e9, e9x⟩ := P9; subst e9 e9x; (try simp only [List.nil_append] at N9); clear D9; (try dsimp only); (try k_fold)))
  have hne : l0 ≠ [] := keys_ne ok.keys
  have hlen : l0.length ≤ 3 := keys_len ok.keys
  have hsz : (kv l0).length ≤ sizeLine := by rw [kv_length, sizeLine_eq]; omega
  unfold Ctr
  k_fill
  intro dp un gd cn cs a ccd cl outer A₀ base h₀ L m s Q E mean mg mb B F X N T hk hdp hun hret
  have N0 := N
  clear N
  have N := N0
  simp only [List.nil_append, List.cons_append] at N
  k_dflt (refine' callR ?k1 ?k2 ?k3 ?k4 ?k5 ?kA ?kF ?kK ?k6 ?k7 ?k8 ?k9 ?kB ?_ ?c2 ?c3 ?c4 ?c5; (case kA => exact rfl); (case kF => exact rfl); (case kK => assumption); (case k1 => k_asm); (case k2 => k_asm); (case k3 => k_asm); (case k4 => k_asm); (case k5 => k_asm); (case k6 => k_is); (case k7 => k_is); (case k8 => ktr_room); (case k9 => exact BindsTo.of_eq rfl); (case c5 => decide); (case kB => exact locs rfl); (case c2 => exact rfl); (case c3 => exact rfl); (case c4 => exact rfl); k_whole; intro g' L' h' hg' FG' F' N' B' X' T'; (try dsimp only); (try k_fold))
  repeat' ((fail_if_success (with_reducible show wpAny _ _ (exec (Stmt.For _ _ _ _ _) _) _ _ _)); first | (k_unfold; (try dsimp only)) | (k_end; wrow_close) | walk1 | (dsimp only; walk1) | (leave1; walk_say "STEP leave1"; try dsimp only) | fail "no step")
  k_dflt (refine' for_join (dx := dx) (Str.ofString "time") (fun q => (dictOf [⟨PyData.keyHash w.params (Str.ofString "own"), .str (Str.ofString "own") k1, .int ow q1⟩, ⟨PyData.keyHash w.params (Str.ofString "peer"), .str (Str.ofString "peer") k2, .int pe q2⟩, ⟨PyData.keyHash w.params (Str.ofString "since"), .str (Str.ofString "since") k3, .int (minT l0) q⟩, ⟨PyData.keyHash w.params (Str.ofString "has_asked"), .str (Str.ofString "has_asked") k4, .bool true⟩] 4)) ?F ?N ?U ?loop ?cont; (case F => k_asm); (case N => k_asm); (case U => k_updF))
  case loop =>
    k_steps
    all_goals (refine' ⟨rfl, _, _, _, _, rfl, fr_time (by assumption) ?h1, cb_drop ?hN (SubL.mem ?hs)⟩; (case h1 => (intro y hy; first | rfl | (simp only [if_neg hy]))); (case hN => assumption); (case hs => (dsimp only; k_subL)))
  case cont =>
    intro hJ tkJ tvJ qJ FJ NJ
    (try dsimp only at NJ)
    (try k_fold)
    repeat' ((fail_if_success (with_reducible show wpAny _ _ (exec (Stmt.While _ _ _ _) _) _ _ _)); first | (k_unfold; (try dsimp only)) | (k_end; wrow_close) | walk1 | (dsimp only; walk1) | (leave1; walk_say "STEP leave1"; try dsimp only) | fail "no step")
    k_dflt (refine' probes_loop (l0 := l0) (b := b) (dl := dl) (ow := ow) (pe := pe) (pw := (b + dl) * 2 ^ Int.toNat 0) (si := minT l0) (dx := dx) (fx := [(dx, _), (x, _), (d, _)]) stop ?F ?htd ?htl ?N ?hd ?turn ?hE; (case F => k_asm); (case htd => exact rfl); (case htl => exact rfl); (case N => (refine' cb_drop ?hN (SubL.mem ?hs); (case hN => assumption); (case hs => k_subL))); (case hd => assumption); (case hE => passes_own))
    case turn =>
      intro u1 u2 u3 u4 TT l oT eT hT tkT hI hdl hon hroom hof1 hof2 hof3 FT NT
      (simp only [List.cons_append, List.nil_append] at NT)
      have hkl : Keys7 (l.map (·.1)) := by rw [hI.keys]; exact ok.keys
      have hnl : l ≠ [] := keys_ne hkl
      have hszl : (kv l).length ≤ sizeLine := by have := keys_len hkl; rw [kv_length, sizeLine_eq]; omega
      have hTT : TT.length ≤ 9 := by omega
      clear FJ NJ
      k_steps
      rotate_left 1
      refine' loop_end ?F ?N ?hm ?ha ?ht ?htd ?hd ?hfx ?hTT hof1 hof2 hof3 ?n1 ?n2 ?n3 ?I hon ?ho ?hl
      case I => assumption
      case F => assumption
      case N => assumption
      case ht => k_mem
      case ha => k_mem
      case htd => k_mem
      case hd => assumption
      case ho => assumption
      case hl => assumption
      case hfx => exact SubL.mem (by k_subL)
      case hTT => intro p hp; (repeat (first | exact hp | apply List.Mem.tail))
      case hm => intro y h1 h2 h3 h4; simp only [if_neg h1, if_neg h2, if_neg h3, if_neg h4]
      case n1 => k_ne
      case n2 => k_ne
      case n3 => k_ne
      all_goals (try dsimp only)
      all_goals k_steps
      all_goals (try dsimp only [LoopPost])
      all_goals k_steps
      all_goals (refine' told_fin (TT := TT) hret N0 ?hg ?hN ?hk ?h1 ?h2 ?h3 ?h4 ?h5 hof3 ?n1 ?n2 ?n3 ?c1 (dict_cls hd) ⟨_, _, _, _, rfl, rfl, rfl, ?P⟩; (case hg => assumption); (case hN => assumption); (case hk => assumption); (case h2 => k_mem); (case h1 => k_mem); (case h3 => intro p hp; (repeat (first | exact hp | apply List.Mem.tail))); (case h4 => k_mem); (case h5 => k_mem); (case n1 => k_ne); (case n2 => k_ne); (case n3 => k_ne); (case c1 => (intro e; cases e)); (case P => first | exact exitA hI hon (by simp) (by rw [List.length_map]; omega) | exact exitB (c := (TT.length : Int)) hI hon (by simp) (by simp) hb hl hne (by rw [List.length_map]; exact hroom) (by assumption) (by assumption) (by assumption)))
end Mine
end
section
open PySem PySem.W PyProof.Rows
set_option Elab.async false
set_option maxRecDepth 100000
set_option maxHeartbeats 1500000
set_option pp.deepTerms false
set_option pp.proofs.threshold 0
set_option linter.unusedSimpArgs false
namespace Mine
local macro_rules | `(tactic| k_all) => `(tactic| assumption)
section
theorem c_spaced_1 (w : World) (d tl : Addr) (o : Obj) (e : Nat) (l0 l : Ask) (b dl now : Int) (TT : List TE) (t1 t2 : Tok) (hd : o.IsDictOf (strKind PySem.Challenge.rw_sj0109_01.row.prog w) (kv l0)) (lo : (d == sysModules) = false)
    (ok : AskOk l0 now b) (hb : 0 < b) (hb' : b < 2 ^ 20) (hl : 0 ≤ dl) (hl' : dl < 2 ^ 20) (h9 : TT.length ≤ 9) (I : PInv l0 l b dl (TT.map teVal)) (x : Str) (a1 : Int) (u1 : Tok) (h0 : l0 = [(x, a1, u1)]) :
    Ctr w 12 220 [.ref d, .ref tl, .int b t1, .int dl t2] [] ((d, o) :: (tl, toldObj TT e) :: TT.map teObj) (fun r mt' new => new = [] ∧ r = .bool true) := by
  k_with_none
  k_with "LTF" => (with_reducible first | (apply And.left; assumption) | (apply And.left; apply And.right; assumption) | (apply And.right; assumption) | (apply And.left; apply And.right; apply And.right; assumption) | (apply And.right; apply And.right; assumption) | (apply And.left; apply And.right; apply And.right; apply And.right; assumption) | (apply And.right; apply And.right; apply And.right; assumption) | (apply And.left; apply And.right; apply And.right; apply And.right; apply And.right; assumption) | (apply And.right; apply And.right; apply And.right; apply And.right; assumption) | (apply And.left; apply And.right; apply And.right; apply And.right; apply And.right; apply And.right; assumption) | (apply And.right; apply And.right; apply And.right; apply And.right; apply And.right; assumption) | (apply And.left; apply And.right; apply And.right; apply And.right; apply And.right; apply And.right; apply And.right; assumption) | (apply And.right; apply And.right; apply And.right; apply And.right; apply And.right; apply And.right; assumption) | (apply And.left; apply And.right; apply And.right; apply And.right; apply And.right; apply And.right; apply And.right; apply And.right; assumption) | (apply And.right; apply And.right; apply And.right; apply And.right; apply And.right; apply And.right; apply And.right; assumption) | (apply And.left; apply And.right; apply And.right; apply And.right; apply And.right; apply And.right; apply And.right; apply And.right; apply And.right; assumption) | (apply And.right; apply And.right; apply And.right; apply And.right; apply And.right; apply And.right; apply And.right; apply And.right; assumption) | (apply And.left; apply And.right; apply And.right; apply And.right; apply And.right; apply And.right; apply And.right; apply And.right; apply And.right; apply And.right; assumption) | (apply And.right; apply And.right; apply And.right; apply And.right; apply And.right; apply And.right; apply And.right; apply And.right; apply And.right; assumption) | (apply And.left; apply And.right; apply And.right; apply And.right; apply And.right; apply And.right; apply And.right; apply And.right; apply And.right; apply And.right; apply And.right; assumption) | (apply And.right; apply And.right; apply And.right; apply And.right; apply And.right; apply And.right; apply And.right; apply And.right; apply And.right; apply And.right; assumption) | (apply And.left; apply And.right; apply And.right; apply And.right; apply And.right; apply And.right; apply And.right; apply And.right; apply And.right; apply And.right; apply And.right; apply And.right; assumption) | (apply And.right; apply And.right; apply And.right; apply And.right; apply And.right; apply And.right; apply And.right; apply And.right; apply And.right; apply And.right; apply And.right; assumption) | (apply And.left; apply And.right; apply And.right; apply And.right; apply And.right; apply And.right; apply And.right; apply And.right; apply And.right; apply And.right; apply And.right; apply And.right; apply And.right; assumption) | (apply And.right; apply And.right; apply And.right; apply And.right; apply And.right; apply And.right; apply And.right; apply And.right; apply And.right; apply And.right; apply And.right; apply And.right; assumption))
  k_with "exec For Name Name cons nil" => ((k_here; (rename Fr _ _ _ _ => lF'); (with_unfolding_all refine' For_turnsG lF' ?g_r1 ?_; (case g_r1 => exact rfl); k_whole)))
  k_with "call builtin:sorted" => ((k_here; (with_reducible show wpAny _ _ (call (Value.builtin "sorted") [Value.ref _]) _ _ _); k_dflt (refine' vals_sorted (by rfl) ?F_r2 ?N_r2 ?v_r2 ?p_r2 ?d_r2 ?ne_r2 ?l_r2 ?_; (case F_r2 => k_asm); (case N_r2 => k_asm); (case v_r2 => k_mem); (case p_r2 => k_mem); (case d_r2 => assumption); (case ne_r2 => assumption); (case l_r2 => assumption)); intro B' out' ns' h' tk' hI' hP' hS' F' N' l1; (try k_lt l1); (obtain ⟨t8, e8⟩ | ⟨t8, b8, u8, e8⟩ | ⟨t8, b8, u8, c8, v8, e8⟩ := out_cases hI' hP' hS' (by assumption) (by assumption)) <;> (subst e8; clear hI' hP' hS')))
  k_with "call builtin:max" => ((k_here; (with_reducible show wpAny _ _ (call (Value.builtin "max") [Value.ref _]) _ _ _); k_dflt (refine' vals_max (by rfl) ?F_r3 ?N_r3 ?v_r3 ?p_r3 ?d_r3 ?ne_r3 ?_; (case F_r3 => k_asm); (case N_r3 => k_asm); (case v_r3 => k_mem); (case p_r3 => k_mem); (case d_r3 => assumption); (case ne_r3 => assumption)); intro h' tk' t' F' N'))
  k_with "call builtin:min" => ((k_here; (with_reducible show wpAny _ _ (call (Value.builtin "min") [Value.ref _]) _ _ _); k_dflt (refine' vals_min (by rfl) ?F_r4 ?N_r4 ?v_r4 ?p_r4 ?d_r4 ?ne_r4 ?_; (case F_r4 => k_asm); (case N_r4 => k_asm); (case v_r4 => k_mem); (case p_r4 => k_mem); (case d_r4 => assumption); (case ne_r4 => assumption)); intro h' tk' t' F' N'))
  k_with "getMethod ref" => ((k_here; (with_reducible show wpAny _ _ (getMethod (Value.ref _) (Str.ofString "values") _) _ _ _); k_dflt (refine kdl_method (knd := PySem.strKind _ _) PySem.F.slot_dict_values PySem.F.type_dict_values (by k_asm) (by k_mem) (by assumption) ?_)))
  k_with "setItem ref str" => ((k_here; k_dflt (refine' kda_set (knd := PySem.strKind _ _) ?F_r6 ?N_r6 ?U_r6 ?d_r6 (strKind_is _ _ _ _) ?z_r6 ?_; (case F_r6 => k_asm); (case N_r6 => k_asm); (case U_r6 => k_updF); (case d_r6 => assumption); (case z_r6 => assumption)); intro h' o' F' N' hd'; (try dsimp only at N'); (rw [stored_kv (by assumption)] at hd')))
  k_with "binaryOp Mult int int" => (dsimp only)
  k_with "binaryOp Sub int int" => (dsimp only)
  k_with "binaryOp Add int int" => (dsimp only)
  k_with "binaryOp Pow int int" => (dsimp only)
  k_with "newTuple" => (dsimp only)
  k_with "compareOp LtE int int" => (dsimp only)
  k_with "testChain" => (dsimp only)
  k_with "truthy bool" => (dsimp only)
  k_with "compareOp In str ref" => ((k_here; k_dflt (refine in_ask (by k_asm) (by k_mem) (by assumption) (by assumption) ?_)))
  k_with "subscriptTail" => ((k_here; (with_reducible show wpAny _ _ (subscriptTail _ _ (Value.ref _) (Value.int _ _)) _ _ _); k_dflt (first | (refine told_item (by k_asm) (by k_mem) (by omega) (by omega) (by assumption) ?_) | (refine tup_fst (by k_asm) (by assumption) (by omega) ?_))))
  k_with "call builtin:len" => ((k_here; (with_reducible show wpAny _ _ (call (Value.builtin "len") [Value.ref _]) _ _ _); k_dflt (first | (refine len_told (by k_asm) (by k_mem) (by assumption) ?_) | (refine len_ask (by k_asm) (by k_mem) (by assumption) (by assumption) (by assumption) ?_))))
  k_with "pyIter ref" => ((k_here; (rename Fr _ _ _ _ => lF'); (rename News _ _ _ _ => lN'); (rename IsRange _ _ _ _ _ _ _ _ => rgX); (with_unfolding_all refine' range_loop ?hh_r18 rgX ?a_r18 ?b_r18 ?c_r18 ?d_r18 lF' lN' (fun k' t' h' tk' own' hk1' hk2' F' N' => ?_) (fun u' h' tk' F' N' => ?_)); (case hh_r18 => rfl); (case a_r18 => omega); (case b_r18 => omega); (case c_r18 => omega); (case d_r18 => omega); (have hg' := gap_at (by assumption) hk1' hk2'); (try rw [longest_pos (by assumption)] at hg'); (try rw [longest_neg (by assumption)] at hg'); (try simp only [List.cons_append, List.nil_append] at N'); (try dsimp only); clear lF' lN'))
  k_with "TurnR" => ((refine' turnR_next ?F_r19 ?N_r19 ?h3_r19; (case F_r19 => assumption); (case N_r19 => (rename News _ _ _ _ => lN'); exact lN'); (case h3_r19 => (intro y hy; first | rfl | (simp only [if_neg hy])))))
  k_with "compareOp Eq ref" => ((k_here; (with_reducible show wpAny _ _ (compareOp CmpOp.Eq (Value.ref _) (Value.ref _)) _ _ _); k_dflt (refine told_eq_nil (by k_asm) (by k_asm) (by k_mem) (by assumption) (by k_mem) (by assumption) (by ktr_units) ?_)))
  k_with "binaryOp Mult int int" => (dsimp only)
  k_with "binaryOp Sub int int" => (dsimp only)
  k_with "binaryOp Add int int" => (dsimp only)
  k_with "binaryOp Pow int int" => (dsimp only)
  k_with "newTuple" => (dsimp only)
  k_with "compareOp LtE int int" => (dsimp only)
  k_with "testChain" => (dsimp only)
  k_with "truthy bool" => (dsimp only)
  k_with "compareOp In str ref" => ((k_here; k_dflt (refine in_ask (by k_asm) (by k_mem) (by assumption) (by assumption) ?_)))
  k_with "subscriptTail" => ((k_here; (with_reducible show wpAny _ _ (subscriptTail _ _ (Value.ref _) (Value.int _ _)) _ _ _); k_dflt (first | (refine told_item (by k_asm) (by k_mem) (by omega) (by omega) (by assumption) ?_) | (refine tup_fst (by k_asm) (by assumption) (by omega) ?_))))
  k_with "call builtin:len" => ((k_here; (with_reducible show wpAny _ _ (call (Value.builtin "len") [Value.ref _]) _ _ _); k_dflt (first | (refine len_told (by k_asm) (by k_mem) (by assumption) ?_) | (refine len_one (by k_asm) (by k_mem) (by assumption) (by assumption) (by assumption) ?_))))
  k_with "call type:list" => ((k_here; (with_reducible show wpAny _ _ (call (Value.type "list") [Value.ref _]) _ _ _); k_dflt (refine' kdl_list_keysS (kvs := [(_, Value.int _ _)]) ?h_r32 ?F_r32 ?N_r32 ?p_r32 ?d_r32 ?lo_r32 ?z_r32 ?_; (case h_r32 => rfl); (case F_r32 => k_asm); (case N_r32 => k_asm); (case p_r32 => k_mem); (case d_r32 => assumption); (case lo_r32 => assumption); (case z_r32 => exact Nat.le_of_ble_eq_true rfl); intro B' c' h' tk' t'; intro F' N' l1; (try k_lt l1))))
  k_with "subscriptTail" => ((k_here; (with_reducible show wpAny _ _ (subscriptTail _ _ (Value.ref _) (Value.str _ _)) _ _ _); k_dflt (refine kda_item (kvs := [(_, Value.int _ _)]) (by k_asm) (by k_mem) (by assumption) (strKind_is _ _ _ _) (by simp [valueAt]; rfl) ?_)))
  k_with "eval ListComp" => ((k_here; k_dflt (refine LCg.ListComp_U (F₀ := by k_asm) (by with_unfolding_all rfl) (by decide) (by rfl) (by decide) (by rfl) ?_)))
  k_with "CompSrc" => ((k_here; k_dflt ((rename Fr _ _ _ _ => lF'); (rename News _ _ _ _ => lN'); (rename IsRange _ _ _ _ _ _ _ _ => rgX); (refine' range_tups ?f_r35 ?hh_r35 lF' lN' rgX ?h9_r35 (fun k' t' I' oI' C' oC' D' m' ys' own' h' tk' s2' E' hk1' hk2' hC' hx' F' N' ne' => ?_) (fun g' CL' own' hC1' hC2' => ?fin_r35)); (case f_r35 => assumption); (case hh_r35 => rfl); (case h9_r35 => assumption); (case' fin => (try simp only [List.cons_append, List.nil_append]); (try dsimp only)); (try simp only [List.cons_append, List.nil_append] at N'); (try simp only [List.cons_append, List.nil_append]); (try dsimp only))))
  k_with "compareOp Eq ref" => ((k_here; (with_reducible show wpAny _ _ (compareOp CmpOp.Eq (Value.ref _) (Value.ref _)) _ _ _); k_dflt (refine told_eq (by k_asm) (by k_asm) (by k_mem) (by assumption) (by k_mem) (by intro p hp; (repeat (first | exact hp | exact SubOwn.mem (by assumption) hp | apply List.Mem.tail))) (by assumption) (by ktr_units) (single_eq (by assumption) (by assumption) (by assumption)) ?_)))
  k_with "TupEnd" => ((k_dflt ((refine' TupEnd.intro ?F_r37 ?N_r37 ?n1_r37 ?n2_r37 ?n3_r37 ?v_r37); (case F_r37 => assumption); (case N_r37 => (rename News _ _ _ _ => lN'); exact lN'); (case n1_r37 => k_ne); (case n2_r37 => k_ne); (case n3_r37 => k_ne); (case v_r37 => (first | exact tup_val_pos (by assumption) | exact tup_val_neg (by assumption))))))
  have hne : l0 ≠ [] := keys_ne ok.keys
  have hlen : l0.length ≤ 3 := keys_len ok.keys
  have hnm := names_ok I ok.keys
  have hd1 : o.IsDictOf (strKind PySem.Challenge.rw_sj0109_01.row.prog w) [(x, .int a1 u1)] := by rw [h0] at hd; exact hd
  have hs1 : (l0.length : Int) = 1 := by rw [h0]; rfl
  have hf : IsF (fun k => a1 + per0 b dl x * (2 ^ k.toNat * 2 - 1)) x := trivial
  unfold Ctr
  k_fill
  intro dp un gd cn cs a ccd cl outer A₀ base h₀ L m s Q E mean mg mb B F X N T hk hdp hun hret
  have N0 := N
  clear N
  have N : News h₀ L s.heap [(d, o), (tl, toldObj TT e)] := fun p hp => N0 p (by rcases List.mem_cons.mp hp with rfl | hp; exact .head _; rw [List.mem_singleton.mp hp]; exact .tail _ (.head _))
  have N0s := N
  k_dflt (refine' callRC ?k1 ?k2 ?k3 ?k4 ?k5 ?kA ?kF ?kK ?k6 ?k7 ?k8 ?k9 ?kB ?kD ?_ ?c2 ?c3 ?c4; (case kA => exact rfl); (case kF => exact rfl); (case kK => assumption); (case k1 => k_asm); (case k2 => k_asm); (case k3 => k_asm); (case k4 => k_asm); (case k5 => k_asm); (case k6 => k_is); (case k7 => k_is); (case k8 => ktr_room); (case k9 => exact BindsTo.of_eq rfl); (case kB => exact rfl); (case kD => decide +kernel); (case c2 => exact rfl); (case c3 => exact rfl); (case c4 => exact rfl); k_whole; intro g' L' h' tk' cells' hg' FG' F' N' Y' B' X' T' l1; (try k_lt l1); k_cells Y'; (try simp only [List.cons_append, List.nil_append] at N'); (try dsimp only); (try k_fold))
  have hTb : ∀ p ∈ TT.map teObj, g'.get? p.1 = some p.2 := by rw [hg']; exact tt_base N0 (dict_cls hd)
  repeat' ((fail_if_success (with_reducible show LCg.CompSrc _ _ _ _ _ _ _ _ _ _ _ _ _ _ )); (first | (k_unfold; (try dsimp only)) | (k_end; wrow_close) | walk1 | (dsimp only; walk1) | (leave1; walk_say "STEP leave1"; try dsimp only) | fail "no step"))
  all_goals (
    (rename Fr _ _ _ _ => lF')
    (rename News _ _ _ _ => lN')
    (rename IsRange _ _ _ _ _ _ _ _ => rgX)
    k_dflt (refine' range_tups hf ?hh lF' lN' rgX ?h9 (fun k' t' I' oI' C' oC' D' m' ys' own' h' tk' s2' E' hk1' hk2' hC' hx' F' N' ne' => ?turn) (fun g' CL' own' hC1' hC2' => ?fin))
    (case hh => rfl)
    (case h9 => exact h9)
    case fin =>
      intro D' h' tk' F' N' o1'
      (try simp only [List.nil_append, List.cons_append] at N')
      (try dsimp only)
      refine' told_eq F' N' ?ma hTb ?mb ?hC hnm ?hu (single_eq I h0 hC2') ?_
      case ma => k_mem
      case mb => k_mem
      case hu => ktr_units
      case hC => (intro p hp; have hp := hC1' p hp; (repeat (first | exact hp | apply List.Mem.tail)))
      (try dsimp only)
      k_steps
      (refine' ctr_fin0 hret N0s ?hg ?hN ?hk ?hs ⟨rfl, ?P⟩; (case hg => assumption); (case hN => assumption); (case hk => assumption); (case hs => exact SubL.mem (by k_subL)); (case P => rfl))
    case turn =>
      (try simp only [List.cons_append, List.nil_append] at N')
      (try simp only [List.cons_append, List.nil_append])
      (try dsimp only)
      clear lF' lN'
      repeat' ((fail_if_success (with_reducible show TupEnd _ _ _ _ _ _ _ _ _ _ )); (first | (k_unfold; (try dsimp only)) | (k_end; wrow_close) | walk1 | (dsimp only; walk1) | (leave1; walk_say "STEP leave1"; try dsimp only) | fail "no step"))
      (try dsimp only)
      (rename Fr _ _ _ _ => lF9)
      (rename News _ _ _ _ => lN9)
      refine' TupEnd.intro lF9 lN9 ?n1 ?n2 ?n3 ?v
      case n1 => (refine Nat.ne_of_gt ?_; with_reducible assumption)
      case n2 => (refine Nat.ne_of_gt ?_; with_reducible assumption)
      case n3 => (refine Nat.ne_of_gt ?_; with_reducible assumption)
      case v => (first | exact tup_val_pos (beq_iff_eq.mp (by assumption)) | exact tup_val_neg (beq_eq_false_iff_ne.mp (by assumption))))
end
end Mine
end
section
open PySem PySem.W PyProof.Rows
set_option Elab.async false
set_option maxRecDepth 100000
set_option maxHeartbeats 800000
set_option pp.deepTerms false
set_option pp.proofs.threshold 0
set_option linter.unusedSimpArgs false
namespace Mine
local macro_rules | `(tactic| k_all) => `(tactic| assumption)
theorem c_spaced_m (w : World) (d tl : Addr) (o : Obj) (e : Nat) (l0 l : Ask) (b dl now : Int) (TT : List TE) (t1 t2 : Tok) (hd : o.IsDictOf (strKind PySem.Challenge.rw_sj0109_01.row.prog w) (kv l0)) (lo : (d == sysModules) = false)
    (ok : AskOk l0 now b) (hb : 0 < b) (hb' : b < 2 ^ 20) (hl : 0 ≤ dl) (hl' : dl < 2 ^ 20) (h9 : TT.length ≤ 9) (I : PInv l0 l b dl (TT.map teVal)) (hs1 : ¬ (l0.length : Int) = 1) :
    Ctr w 12 220 [.ref d, .ref tl, .int b t1, .int dl t2] [] ((d, o) :: (tl, toldObj TT e) :: TT.map teObj) (fun r mt' new => new = [] ∧ r = .bool true) := by
  k_with_none
  k_with "LTF" => (with_reducible first | (apply And.left; assumption) | (apply And.left; apply And.right; assumption) | (apply And.right; assumption) | (apply And.left; apply And.right; apply And.right; assumption) | (apply And.right; apply And.right; assumption) | (apply And.left; apply And.right; apply And.right; apply And.right; assumption) | (apply And.right; apply And.right; apply And.right; assumption) | (apply And.left; apply And.right; apply And.right; apply And.right; apply And.right; assumption) | (apply And.right; apply And.right; apply And.right; apply And.right; assumption) | (apply And.left; apply And.right; apply And.right; apply And.right; apply And.right; apply And.right; assumption) | (apply And.right; apply And.right; apply And.right; apply And.right; apply And.right; assumption) | (apply And.left; apply And.right; apply And.right; apply And.right; apply And.right; apply And.right; apply And.right; assumption) | (apply And.right; apply And.right; apply And.right; apply And.right; apply And.right; apply And.right; assumption) | (apply And.left; apply And.right; apply And.right; apply And.right; apply And.right; apply And.right; apply And.right; apply And.right; assumption) | (apply And.right; apply And.right; apply And.right; apply And.right; apply And.right; apply And.right; apply And.right; assumption) | (apply And.left; apply And.right; apply And.right; apply And.right; apply And.right; apply And.right; apply And.right; apply And.right; apply And.right; assumption) | (apply And.right; apply And.right; apply And.right; apply And.right; apply And.right; apply And.right; apply And.right; apply And.right; assumption) | (apply And.left; apply And.right; apply And.right; apply And.right; apply And.right; apply And.right; apply And.right; apply And.right; apply And.right; apply And.right; assumption) | (apply And.right; apply And.right; apply And.right; apply And.right; apply And.right; apply And.right; apply And.right; apply And.right; apply And.right; assumption) | (apply And.left; apply And.right; apply And.right; apply And.right; apply And.right; apply And.right; apply And.right; apply And.right; apply And.right; apply And.right; apply And.right; assumption) | (apply And.right; apply And.right; apply And.right; apply And.right; apply And.right; apply And.right; apply And.right; apply And.right; apply And.right; apply And.right; assumption) | (apply And.left; apply And.right; apply And.right; apply And.right; apply And.right; apply And.right; apply And.right; apply And.right; apply And.right; apply And.right; apply And.right; apply And.right; assumption) | (apply And.right; apply And.right; apply And.right; apply And.right; apply And.right; apply And.right; apply And.right; apply And.right; apply And.right; apply And.right; apply And.right; assumption) | (apply And.left; apply And.right; apply And.right; apply And.right; apply And.right; apply And.right; apply And.right; apply And.right; apply And.right; apply And.right; apply And.right; apply And.right; apply And.right; assumption) | (apply And.right; apply And.right; apply And.right; apply And.right; apply And.right; apply And.right; apply And.right; apply And.right; apply And.right; apply And.right; apply And.right; apply And.right; assumption))
  k_with "exec For Name Name cons nil" => ((k_here; (rename Fr _ _ _ _ => lF'); (with_unfolding_all refine' For_turnsG lF' ?g_r1 ?_; (case g_r1 => exact rfl); k_whole)))
  k_with "call builtin:sorted" => ((k_here; (with_reducible show wpAny _ _ (call (Value.builtin "sorted") [Value.ref _]) _ _ _); k_dflt (refine' vals_sorted (by rfl) ?F_r2 ?N_r2 ?v_r2 ?p_r2 ?d_r2 ?ne_r2 ?l_r2 ?_; (case F_r2 => k_asm); (case N_r2 => k_asm); (case v_r2 => k_mem); (case p_r2 => k_mem); (case d_r2 => assumption); (case ne_r2 => assumption); (case l_r2 => assumption)); intro B' out' ns' h' tk' hI' hP' hS' F' N' l1; (try k_lt l1); (obtain ⟨t8, e8⟩ | ⟨t8, b8, u8, e8⟩ | ⟨t8, b8, u8, c8, v8, e8⟩ := out_cases hI' hP' hS' (by assumption) (by assumption)) <;> (subst e8; clear hI' hP' hS')))
  k_with "call builtin:max" => ((k_here; (with_reducible show wpAny _ _ (call (Value.builtin "max") [Value.ref _]) _ _ _); k_dflt (refine' vals_max (by rfl) ?F_r3 ?N_r3 ?v_r3 ?p_r3 ?d_r3 ?ne_r3 ?_; (case F_r3 => k_asm); (case N_r3 => k_asm); (case v_r3 => k_mem); (case p_r3 => k_mem); (case d_r3 => assumption); (case ne_r3 => assumption)); intro h' tk' t' F' N'))
  k_with "call builtin:min" => ((k_here; (with_reducible show wpAny _ _ (call (Value.builtin "min") [Value.ref _]) _ _ _); k_dflt (refine' vals_min (by rfl) ?F_r4 ?N_r4 ?v_r4 ?p_r4 ?d_r4 ?ne_r4 ?_; (case F_r4 => k_asm); (case N_r4 => k_asm); (case v_r4 => k_mem); (case p_r4 => k_mem); (case d_r4 => assumption); (case ne_r4 => assumption)); intro h' tk' t' F' N'))
  k_with "getMethod ref" => ((k_here; (with_reducible show wpAny _ _ (getMethod (Value.ref _) (Str.ofString "values") _) _ _ _); k_dflt (refine kdl_method (knd := PySem.strKind _ _) PySem.F.slot_dict_values PySem.F.type_dict_values (by k_asm) (by k_mem) (by assumption) ?_)))
  k_with "setItem ref str" => ((k_here; k_dflt (refine' kda_set (knd := PySem.strKind _ _) ?F_r6 ?N_r6 ?U_r6 ?d_r6 (strKind_is _ _ _ _) ?z_r6 ?_; (case F_r6 => k_asm); (case N_r6 => k_asm); (case U_r6 => k_updF); (case d_r6 => assumption); (case z_r6 => assumption)); intro h' o' F' N' hd'; (try dsimp only at N'); (rw [stored_kv (by assumption)] at hd')))
  k_with "binaryOp Mult int int" => (dsimp only)
  k_with "binaryOp Sub int int" => (dsimp only)
  k_with "binaryOp Add int int" => (dsimp only)
  k_with "binaryOp Pow int int" => (dsimp only)
  k_with "newTuple" => (dsimp only)
  k_with "compareOp LtE int int" => (dsimp only)
  k_with "testChain" => (dsimp only)
  k_with "truthy bool" => (dsimp only)
  k_with "compareOp In str ref" => ((k_here; k_dflt (refine in_ask (by k_asm) (by k_mem) (by assumption) (by assumption) ?_)))
  k_with "subscriptTail" => ((k_here; (with_reducible show wpAny _ _ (subscriptTail _ _ (Value.ref _) (Value.int _ _)) _ _ _); k_dflt (first | (refine told_item (by k_asm) (by k_mem) (by omega) (by omega) (by assumption) ?_) | (refine tup_fst (by k_asm) (by assumption) (by omega) ?_))))
  k_with "call builtin:len" => ((k_here; (with_reducible show wpAny _ _ (call (Value.builtin "len") [Value.ref _]) _ _ _); k_dflt (first | (refine len_told (by k_asm) (by k_mem) (by assumption) ?_) | (refine len_ask (by k_asm) (by k_mem) (by assumption) (by assumption) (by assumption) ?_))))
  k_with "pyIter ref" => ((k_here; (rename Fr _ _ _ _ => lF'); (rename News _ _ _ _ => lN'); (rename IsRange _ _ _ _ _ _ _ _ => rgX); (with_unfolding_all refine' range_loop ?hh_r18 rgX ?a_r18 ?b_r18 ?c_r18 ?d_r18 lF' lN' (fun k' t' h' tk' own' hk1' hk2' F' N' => ?_) (fun u' h' tk' F' N' => ?_)); (case hh_r18 => rfl); (case a_r18 => omega); (case b_r18 => omega); (case c_r18 => omega); (case d_r18 => omega); (have hg' := gap_at (by assumption) hk1' hk2'); (try rw [longest_pos (by assumption)] at hg'); (try rw [longest_neg (by assumption)] at hg'); (try simp only [List.cons_append, List.nil_append] at N'); (try dsimp only); clear lF' lN'))
  k_with "TurnR" => ((refine' turnR_next ?F_r19 ?N_r19 ?h3_r19; (case F_r19 => assumption); (case N_r19 => (rename News _ _ _ _ => lN'); exact lN'); (case h3_r19 => (intro y hy; first | rfl | (simp only [if_neg hy])))))
  k_with "compareOp Eq ref" => ((k_here; (with_reducible show wpAny _ _ (compareOp CmpOp.Eq (Value.ref _) (Value.ref _)) _ _ _); k_dflt (refine told_eq_nil (by k_asm) (by k_asm) (by k_mem) (by assumption) (by k_mem) (by assumption) (by ktr_units) ?_)))
  have hne : l0 ≠ [] := keys_ne ok.keys
  have hlen : l0.length ≤ 3 := keys_len ok.keys
  have hnm := names_ok I ok.keys
  unfold Ctr
  k_fill
  intro dp un gd cn cs a ccd cl outer A₀ base h₀ L m s Q E mean mg mb B F X N T hk hdp hun hret
  have N0 := N
  clear N
  have N : News h₀ L s.heap [(d, o), (tl, toldObj TT e)] := fun p hp => N0 p (by rcases List.mem_cons.mp hp with rfl | hp; exact .head _; rw [List.mem_singleton.mp hp]; exact .tail _ (.head _))
  have N0s := N
  k_dflt (refine' callRC ?k1 ?k2 ?k3 ?k4 ?k5 ?kA ?kF ?kK ?k6 ?k7 ?k8 ?k9 ?kB ?kD ?_ ?c2 ?c3 ?c4; (case kA => exact rfl); (case kF => exact rfl); (case kK => assumption); (case k1 => k_asm); (case k2 => k_asm); (case k3 => k_asm); (case k4 => k_asm); (case k5 => k_asm); (case k6 => k_is); (case k7 => k_is); (case k8 => ktr_room); (case k9 => exact BindsTo.of_eq rfl); (case kB => exact rfl); (case kD => decide +kernel); (case c2 => exact rfl); (case c3 => exact rfl); (case c4 => exact rfl); k_whole; intro g' L' h' tk' cells' hg' FG' F' N' Y' B' X' T' l1; (try k_lt l1); k_cells Y'; (try simp only [List.cons_append, List.nil_append] at N'); (try dsimp only); (try k_fold))
  have hTb : ∀ p ∈ TT.map teObj, g'.get? p.1 = some p.2 := by rw [hg']; exact tt_base N0 (dict_cls hd)
  k_steps
  all_goals first
    | (exfalso; omega)
    | (refine' ctr_fin0 hret N0s ?hg ?hN ?hk ?hs ⟨rfl, ?P⟩; (case hg => assumption); (case hN => assumption); (case hk => assumption); (case hs => exact SubL.mem (by k_subL)); (case P => exact congrArg Value.bool (decide_eq_true (by assumption))))
    | (refine' ctr_fin0 hret N0s ?hg ?hN ?hk ?hs ⟨rfl, ?P⟩; (case hg => assumption); (case hN => assumption); (case hk => assumption); (case hs => exact SubL.mem (by k_subL)); (case P => exact congrArg Value.bool (decide_eq_true (head_at (by assumption) (by omega)))))
end Mine
end
section
open PySem PySem.W PyProof.Rows
set_option Elab.async false
set_option maxRecDepth 100000
set_option maxHeartbeats 1500000
set_option pp.deepTerms false
set_option pp.proofs.threshold 0
set_option linter.unusedSimpArgs false
namespace Mine
local macro_rules | `(tactic| k_all) => `(tactic| assumption)
theorem c_ends_none (w : World) (d tl : Addr) (o : Obj) (e : Nat) (l0 : Ask) (b dl now : Int) (stop : Nat) (TT : List TE) (t1 t2 t3 t4 : Tok) (hd : o.IsDictOf (strKind PySem.Challenge.rw_sj0109_01.row.prog w) (kv l0)) (lo : (d == sysModules) = false)
    (ok : AskOk l0 now b) (hb : 0 < b) (hb' : b < 2 ^ 20) (hl : 0 ≤ dl) (hl' : dl < 2 ^ 20) (h9 : TT.length ≤ 9) (hst : TT.length = stop) :
    Ctr w 12 227 [.ref d, .ref tl, .none, .int b t1, .int dl t2, .int stop t3] [] ((d, o) :: (tl, toldObj TT e) :: TT.map teObj) (fun r _ new => new = [] ∧ r = .bool true) := by
  k_with_none
  k_with "LTF" => (with_reducible first | (apply And.left; assumption) | (apply And.left; apply And.right; assumption) | (apply And.right; assumption) | (apply And.left; apply And.right; apply And.right; assumption) | (apply And.right; apply And.right; assumption) | (apply And.left; apply And.right; apply And.right; apply And.right; assumption) | (apply And.right; apply And.right; apply And.right; assumption) | (apply And.left; apply And.right; apply And.right; apply And.right; apply And.right; assumption) | (apply And.right; apply And.right; apply And.right; apply And.right; assumption) | (apply And.left; apply And.right; apply And.right; apply And.right; apply And.right; apply And.right; assumption) | (apply And.right; apply And.right; apply And.right; apply And.right; apply And.right; assumption) | (apply And.left; apply And.right; apply And.right; apply And.right; apply And.right; apply And.right; apply And.right; assumption) | (apply And.right; apply And.right; apply And.right; apply And.right; apply And.right; apply And.right; assumption) | (apply And.left; apply And.right; apply And.right; apply And.right; apply And.right; apply And.right; apply And.right; apply And.right; assumption) | (apply And.right; apply And.right; apply And.right; apply And.right; apply And.right; apply And.right; apply And.right; assumption) | (apply And.left; apply And.right; apply And.right; apply And.right; apply And.right; apply And.right; apply And.right; apply And.right; apply And.right; assumption) | (apply And.right; apply And.right; apply And.right; apply And.right; apply And.right; apply And.right; apply And.right; apply And.right; assumption) | (apply And.left; apply And.right; apply And.right; apply And.right; apply And.right; apply And.right; apply And.right; apply And.right; apply And.right; apply And.right; assumption) | (apply And.right; apply And.right; apply And.right; apply And.right; apply And.right; apply And.right; apply And.right; apply And.right; apply And.right; assumption) | (apply And.left; apply And.right; apply And.right; apply And.right; apply And.right; apply And.right; apply And.right; apply And.right; apply And.right; apply And.right; apply And.right; assumption) | (apply And.right; apply And.right; apply And.right; apply And.right; apply And.right; apply And.right; apply And.right; apply And.right; apply And.right; apply And.right; assumption) | (apply And.left; apply And.right; apply And.right; apply And.right; apply And.right; apply And.right; apply And.right; apply And.right; apply And.right; apply And.right; apply And.right; apply And.right; assumption) | (apply And.right; apply And.right; apply And.right; apply And.right; apply And.right; apply And.right; apply And.right; apply And.right; apply And.right; apply And.right; apply And.right; assumption) | (apply And.left; apply And.right; apply And.right; apply And.right; apply And.right; apply And.right; apply And.right; apply And.right; apply And.right; apply And.right; apply And.right; apply And.right; apply And.right; assumption) | (apply And.right; apply And.right; apply And.right; apply And.right; apply And.right; apply And.right; apply And.right; apply And.right; apply And.right; apply And.right; apply And.right; apply And.right; assumption))
  k_with "call builtin:sorted" => ((k_here; (with_reducible show wpAny _ _ (call (Value.builtin "sorted") [Value.ref _]) _ _ _); k_dflt (refine' vals_sorted (by rfl) ?F_r1 ?N_r1 ?v_r1 ?p_r1 ?d_r1 ?ne_r1 ?l_r1 ?_; (case F_r1 => k_asm); (case N_r1 => k_asm); (case v_r1 => k_mem); (case p_r1 => k_mem); (case d_r1 => assumption); (case ne_r1 => assumption); (case l_r1 => assumption)); intro B' out' ns' h' tk' hI' hP' hS' F' N' l1; (try k_lt l1); (obtain ⟨t8, e8⟩ | ⟨t8, b8, u8, e8⟩ | ⟨t8, b8, u8, c8, v8, e8⟩ := out_cases hI' hP' hS' (by assumption) (by assumption)) <;> (subst e8; clear hI' hP' hS')))
  k_with "call builtin:max" => ((k_here; (with_reducible show wpAny _ _ (call (Value.builtin "max") [Value.ref _]) _ _ _); k_dflt (refine' vals_max (by rfl) ?F_r2 ?N_r2 ?v_r2 ?p_r2 ?d_r2 ?ne_r2 ?_; (case F_r2 => k_asm); (case N_r2 => k_asm); (case v_r2 => k_mem); (case p_r2 => k_mem); (case d_r2 => assumption); (case ne_r2 => assumption)); intro h' tk' t' F' N'))
  k_with "call builtin:min" => ((k_here; (with_reducible show wpAny _ _ (call (Value.builtin "min") [Value.ref _]) _ _ _); k_dflt (refine' vals_min (by rfl) ?F_r3 ?N_r3 ?v_r3 ?p_r3 ?d_r3 ?ne_r3 ?_; (case F_r3 => k_asm); (case N_r3 => k_asm); (case v_r3 => k_mem); (case p_r3 => k_mem); (case d_r3 => assumption); (case ne_r3 => assumption)); intro h' tk' t' F' N'))
  k_with "getMethod ref" => ((k_here; (with_reducible show wpAny _ _ (getMethod (Value.ref _) (Str.ofString "values") _) _ _ _); k_dflt (refine kdl_method (knd := PySem.strKind _ _) PySem.F.slot_dict_values PySem.F.type_dict_values (by k_asm) (by k_mem) (by assumption) ?_)))
  k_with "setItem ref str" => ((k_here; k_dflt (refine' kda_set (knd := PySem.strKind _ _) ?F_r5 ?N_r5 ?U_r5 ?d_r5 (strKind_is _ _ _ _) ?z_r5 ?_; (case F_r5 => k_asm); (case N_r5 => k_asm); (case U_r5 => k_updF); (case d_r5 => assumption); (case z_r5 => assumption)); intro h' o' F' N' hd'; (try dsimp only at N'); (rw [stored_kv (by assumption)] at hd')))
  k_with "binaryOp Mult int int" => (dsimp only)
  k_with "binaryOp Sub int int" => (dsimp only)
  k_with "binaryOp Add int int" => (dsimp only)
  k_with "binaryOp Pow int int" => (dsimp only)
  k_with "newTuple" => (dsimp only)
  k_with "compareOp LtE int int" => (dsimp only)
  k_with "testChain" => (dsimp only)
  k_with "truthy bool" => (dsimp only)
  k_with "compareOp In str ref" => ((k_here; k_dflt (refine in_ask (by k_asm) (by k_mem) (by assumption) (by assumption) ?_)))
  k_with "subscriptTail" => ((k_here; (with_reducible show wpAny _ _ (subscriptTail _ _ (Value.ref _) (Value.int _ _)) _ _ _); k_dflt (first | (refine told_item (by k_asm) (by k_mem) (by omega) (by omega) (by assumption) ?_) | (refine tup_fst (by k_asm) (by assumption) (by omega) ?_))))
  k_with "call builtin:len" => ((k_here; (with_reducible show wpAny _ _ (call (Value.builtin "len") [Value.ref _]) _ _ _); k_dflt (first | (refine len_told (by k_asm) (by k_mem) (by assumption) ?_) | (refine len_ask (by k_asm) (by k_mem) (by assumption) (by assumption) (by assumption) ?_))))
  k_with "pyIter ref" => ((k_here; (rename Fr _ _ _ _ => lF'); (rename News _ _ _ _ => lN'); (rename IsRange _ _ _ _ _ _ _ _ => rgX); (with_unfolding_all refine' range_loop ?hh_r17 rgX ?a_r17 ?b_r17 ?c_r17 ?d_r17 lF' lN' (fun k' t' h' tk' own' hk1' hk2' F' N' => ?_) (fun u' h' tk' F' N' => ?_)); (case hh_r17 => rfl); (case a_r17 => omega); (case b_r17 => omega); (case c_r17 => omega); (case d_r17 => omega); (have hg' := gap_at (by assumption) hk1' hk2'); (try rw [longest_pos (by assumption)] at hg'); (try rw [longest_neg (by assumption)] at hg'); (try simp only [List.cons_append, List.nil_append] at N'); (try dsimp only); clear lF' lN'))
  k_with "TurnR" => ((refine' turnR_next ?F_r18 ?N_r18 ?h3_r18; (case F_r18 => assumption); (case N_r18 => (rename News _ _ _ _ => lN'); exact lN'); (case h3_r18 => (intro y hy; first | rfl | (simp only [if_neg hy])))))
  k_with "compareOp Eq ref" => ((k_here; (with_reducible show wpAny _ _ (compareOp CmpOp.Eq (Value.ref _) (Value.ref _)) _ _ _); k_dflt (refine told_eq_nil (by k_asm) (by k_asm) (by k_mem) (by assumption) (by k_mem) (by assumption) (by ktr_units) ?_)))
  k_with "subscriptTail" => ((k_here; (with_reducible show wpAny _ _ (subscriptTail _ _ (Value.ref _) (Value.int (-1) _)) _ _ _); k_dflt (refine told_last (by k_asm) (by k_mem) (by omega) ?_)))
  k_with "subscriptTail" => ((k_here; (with_reducible show wpAny _ _ (subscriptTail _ _ (Value.ref (Prod.fst (List.getD _ _ _))) (Value.int _ _)) _ _ _); k_dflt (refine tup_fst (by k_asm) (by assumption) (by omega) ?_)))
  have hne : l0 ≠ [] := keys_ne ok.keys
  have hlen : l0.length ≤ 3 := keys_len ok.keys
  unfold Ctr
  k_fill
  intro dp un gd cn cs a ccd cl outer A₀ base h₀ L m s Q E mean mg mb B F X N T hk hdp hun hret
  have N0 := N
  clear N
  have N : News h₀ L s.heap [(d, o), (tl, toldObj TT e)] := fun p hp => N0 p (by rcases List.mem_cons.mp hp with rfl | hp; exact .head _; rw [List.mem_singleton.mp hp]; exact .tail _ (.head _))
  have N0s := N
  k_dflt (refine' callR ?k1 ?k2 ?k3 ?k4 ?k5 ?kA ?kF ?kK ?k6 ?k7 ?k8 ?k9 ?kB ?_ ?c2 ?c3 ?c4 ?c5; (case kA => exact rfl); (case kF => exact rfl); (case kK => assumption); (case k1 => k_asm); (case k2 => k_asm); (case k3 => k_asm); (case k4 => k_asm); (case k5 => k_asm); (case k6 => k_is); (case k7 => k_is); (case k8 => ktr_room); (case k9 => exact BindsTo.of_eq rfl); (case c5 => decide); (case kB => exact locs rfl); (case c2 => exact rfl); (case c3 => exact rfl); (case c4 => exact rfl); k_whole; intro g' L' h' hg' FG' F' N' B' X' T'; (try dsimp only); (try k_fold))
  have hTb : ∀ p ∈ TT.map teObj, g'.get? p.1 = some p.2 := by rw [hg']; exact tt_base N0 (dict_cls hd)
  k_steps
  all_goals (refine' ctr_fin0 hret N0s ?hg ?hN ?hk ?hs ⟨rfl, ?P⟩; (case hg => assumption); (case hN => assumption); (case hk => assumption); (case hs => exact SubL.mem (by k_subL)); (case P => exact congrArg Value.bool (decide_eq_true (by omega))))
theorem c_ends_some (w : World) (d tl : Addr) (o : Obj) (e : Nat) (l0 : Ask) (b dl now : Int) (stop : Nat) (TT : List TE) (t1 t2 t3 t4 : Tok) (hd : o.IsDictOf (strKind PySem.Challenge.rw_sj0109_01.row.prog w) (kv l0)) (lo : (d == sysModules) = false)
    (ok : AskOk l0 now b) (hb : 0 < b) (hb' : b < 2 ^ 20) (hl : 0 ≤ dl) (hl' : dl < 2 ^ 20) (h9 : TT.length ≤ 9) (v : Int) (X9 : EndsOk l0 b dl v stop TT) :
    Ctr w 12 227 [.ref d, .ref tl, .int (minT l0 + v) t4, .int b t1, .int dl t2, .int stop t3] [] ((d, o) :: (tl, toldObj TT e) :: TT.map teObj) (fun r _ new => new = [] ∧ r = .bool true) := by
  k_with_none
  k_with "LTF" => (with_reducible first | (apply And.left; assumption) | (apply And.left; apply And.right; assumption) | (apply And.right; assumption) | (apply And.left; apply And.right; apply And.right; assumption) | (apply And.right; apply And.right; assumption) | (apply And.left; apply And.right; apply And.right; apply And.right; assumption) | (apply And.right; apply And.right; apply And.right; assumption) | (apply And.left; apply And.right; apply And.right; apply And.right; apply And.right; assumption) | (apply And.right; apply And.right; apply And.right; apply And.right; assumption) | (apply And.left; apply And.right; apply And.right; apply And.right; apply And.right; apply And.right; assumption) | (apply And.right; apply And.right; apply And.right; apply And.right; apply And.right; assumption) | (apply And.left; apply And.right; apply And.right; apply And.right; apply And.right; apply And.right; apply And.right; assumption) | (apply And.right; apply And.right; apply And.right; apply And.right; apply And.right; apply And.right; assumption) | (apply And.left; apply And.right; apply And.right; apply And.right; apply And.right; apply And.right; apply And.right; apply And.right; assumption) | (apply And.right; apply And.right; apply And.right; apply And.right; apply And.right; apply And.right; apply And.right; assumption) | (apply And.left; apply And.right; apply And.right; apply And.right; apply And.right; apply And.right; apply And.right; apply And.right; apply And.right; assumption) | (apply And.right; apply And.right; apply And.right; apply And.right; apply And.right; apply And.right; apply And.right; apply And.right; assumption) | (apply And.left; apply And.right; apply And.right; apply And.right; apply And.right; apply And.right; apply And.right; apply And.right; apply And.right; apply And.right; assumption) | (apply And.right; apply And.right; apply And.right; apply And.right; apply And.right; apply And.right; apply And.right; apply And.right; apply And.right; assumption) | (apply And.left; apply And.right; apply And.right; apply And.right; apply And.right; apply And.right; apply And.right; apply And.right; apply And.right; apply And.right; apply And.right; assumption) | (apply And.right; apply And.right; apply And.right; apply And.right; apply And.right; apply And.right; apply And.right; apply And.right; apply And.right; apply And.right; assumption) | (apply And.left; apply And.right; apply And.right; apply And.right; apply And.right; apply And.right; apply And.right; apply And.right; apply And.right; apply And.right; apply And.right; apply And.right; assumption) | (apply And.right; apply And.right; apply And.right; apply And.right; apply And.right; apply And.right; apply And.right; apply And.right; apply And.right; apply And.right; apply And.right; assumption) | (apply And.left; apply And.right; apply And.right; apply And.right; apply And.right; apply And.right; apply And.right; apply And.right; apply And.right; apply And.right; apply And.right; apply And.right; apply And.right; assumption) | (apply And.right; apply And.right; apply And.right; apply And.right; apply And.right; apply And.right; apply And.right; apply And.right; apply And.right; apply And.right; apply And.right; apply And.right; assumption))
  k_with "call builtin:sorted" => ((k_here; (with_reducible show wpAny _ _ (call (Value.builtin "sorted") [Value.ref _]) _ _ _); k_dflt (refine' vals_sorted (by rfl) ?F_r1 ?N_r1 ?v_r1 ?p_r1 ?d_r1 ?ne_r1 ?l_r1 ?_; (case F_r1 => k_asm); (case N_r1 => k_asm); (case v_r1 => k_mem); (case p_r1 => k_mem); (case d_r1 => assumption); (case ne_r1 => assumption); (case l_r1 => assumption)); intro B' out' ns' h' tk' hI' hP' hS' F' N' l1; (try k_lt l1); (obtain ⟨t8, e8⟩ | ⟨t8, b8, u8, e8⟩ | ⟨t8, b8, u8, c8, v8, e8⟩ := out_cases hI' hP' hS' (by assumption) (by assumption)) <;> (subst e8; clear hI' hP' hS')))
  k_with "call builtin:max" => ((k_here; (with_reducible show wpAny _ _ (call (Value.builtin "max") [Value.ref _]) _ _ _); k_dflt (refine' vals_max (by rfl) ?F_r2 ?N_r2 ?v_r2 ?p_r2 ?d_r2 ?ne_r2 ?_; (case F_r2 => k_asm); (case N_r2 => k_asm); (case v_r2 => k_mem); (case p_r2 => k_mem); (case d_r2 => assumption); (case ne_r2 => assumption)); intro h' tk' t' F' N'))
  k_with "call builtin:min" => ((k_here; (with_reducible show wpAny _ _ (call (Value.builtin "min") [Value.ref _]) _ _ _); k_dflt (refine' vals_min (by rfl) ?F_r3 ?N_r3 ?v_r3 ?p_r3 ?d_r3 ?ne_r3 ?_; (case F_r3 => k_asm); (case N_r3 => k_asm); (case v_r3 => k_mem); (case p_r3 => k_mem); (case d_r3 => assumption); (case ne_r3 => assumption)); intro h' tk' t' F' N'))
  k_with "getMethod ref" => ((k_here; (with_reducible show wpAny _ _ (getMethod (Value.ref _) (Str.ofString "values") _) _ _ _); k_dflt (refine kdl_method (knd := PySem.strKind _ _) PySem.F.slot_dict_values PySem.F.type_dict_values (by k_asm) (by k_mem) (by assumption) ?_)))
  k_with "setItem ref str" => ((k_here; k_dflt (refine' kda_set (knd := PySem.strKind _ _) ?F_r5 ?N_r5 ?U_r5 ?d_r5 (strKind_is _ _ _ _) ?z_r5 ?_; (case F_r5 => k_asm); (case N_r5 => k_asm); (case U_r5 => k_updF); (case d_r5 => assumption); (case z_r5 => assumption)); intro h' o' F' N' hd'; (try dsimp only at N'); (rw [stored_kv (by assumption)] at hd')))
  k_with "binaryOp Mult int int" => (dsimp only)
  k_with "binaryOp Sub int int" => (dsimp only)
  k_with "binaryOp Add int int" => (dsimp only)
  k_with "binaryOp Pow int int" => (dsimp only)
  k_with "newTuple" => (dsimp only)
  k_with "compareOp LtE int int" => (dsimp only)
  k_with "testChain" => (dsimp only)
  k_with "truthy bool" => (dsimp only)
  k_with "compareOp In str ref" => ((k_here; k_dflt (refine in_ask (by k_asm) (by k_mem) (by assumption) (by assumption) ?_)))
  k_with "subscriptTail" => ((k_here; (with_reducible show wpAny _ _ (subscriptTail _ _ (Value.ref _) (Value.int _ _)) _ _ _); k_dflt (first | (refine told_item (by k_asm) (by k_mem) (by omega) (by omega) (by assumption) ?_) | (refine tup_fst (by k_asm) (by assumption) (by omega) ?_))))
  k_with "call builtin:len" => ((k_here; (with_reducible show wpAny _ _ (call (Value.builtin "len") [Value.ref _]) _ _ _); k_dflt (first | (refine len_told (by k_asm) (by k_mem) (by assumption) ?_) | (refine len_ask (by k_asm) (by k_mem) (by assumption) (by assumption) (by assumption) ?_))))
  k_with "pyIter ref" => ((k_here; (rename Fr _ _ _ _ => lF'); (rename News _ _ _ _ => lN'); (rename IsRange _ _ _ _ _ _ _ _ => rgX); (with_unfolding_all refine' range_loop ?hh_r17 rgX ?a_r17 ?b_r17 ?c_r17 ?d_r17 lF' lN' (fun k' t' h' tk' own' hk1' hk2' F' N' => ?_) (fun u' h' tk' F' N' => ?_)); (case hh_r17 => rfl); (case a_r17 => omega); (case b_r17 => omega); (case c_r17 => omega); (case d_r17 => omega); (have hg' := gap_at (by assumption) hk1' hk2'); (try rw [longest_pos (by assumption)] at hg'); (try rw [longest_neg (by assumption)] at hg'); (try simp only [List.cons_append, List.nil_append] at N'); (try dsimp only); clear lF' lN'))
  k_with "TurnR" => ((refine' turnR_next ?F_r18 ?N_r18 ?h3_r18; (case F_r18 => assumption); (case N_r18 => (rename News _ _ _ _ => lN'); exact lN'); (case h3_r18 => (intro y hy; first | rfl | (simp only [if_neg hy])))))
  k_with "compareOp Eq ref" => ((k_here; (with_reducible show wpAny _ _ (compareOp CmpOp.Eq (Value.ref _) (Value.ref _)) _ _ _); k_dflt (refine told_eq_nil (by k_asm) (by k_asm) (by k_mem) (by assumption) (by k_mem) (by assumption) (by ktr_units) ?_)))
  k_with "subscriptTail" => ((k_here; (with_reducible show wpAny _ _ (subscriptTail _ _ (Value.ref _) (Value.int (-1) _)) _ _ _); k_dflt (refine told_last (by k_asm) (by k_mem) (by omega) ?_)))
  k_with "subscriptTail" => ((k_here; (with_reducible show wpAny _ _ (subscriptTail _ _ (Value.ref (Prod.fst (List.getD _ _ _))) (Value.int _ _)) _ _ _); k_dflt (refine tup_fst (by k_asm) (by assumption) (by omega) ?_)))
  have hne : l0 ≠ [] := keys_ne ok.keys
  have hlen : l0.length ≤ 3 := keys_len ok.keys
  have x1 := X9.len
  have x2 := X9.pos
  have x3 := X9.last
  have x4 := X9.one
  have x5 := X9.many
  unfold Ctr
  k_fill
  intro dp un gd cn cs a ccd cl outer A₀ base h₀ L m s Q E mean mg mb B F X N T hk hdp hun hret
  have N0 := N
  clear N
  have N : News h₀ L s.heap [(d, o), (tl, toldObj TT e)] := fun p hp => N0 p (by rcases List.mem_cons.mp hp with rfl | hp; exact .head _; rw [List.mem_singleton.mp hp]; exact .tail _ (.head _))
  have N0s := N
  k_dflt (refine' callR ?k1 ?k2 ?k3 ?k4 ?k5 ?kA ?kF ?kK ?k6 ?k7 ?k8 ?k9 ?kB ?_ ?c2 ?c3 ?c4 ?c5; (case kA => exact rfl); (case kF => exact rfl); (case kK => assumption); (case k1 => k_asm); (case k2 => k_asm); (case k3 => k_asm); (case k4 => k_asm); (case k5 => k_asm); (case k6 => k_is); (case k7 => k_is); (case k8 => ktr_room); (case k9 => exact BindsTo.of_eq rfl); (case c5 => decide); (case kB => exact locs rfl); (case c2 => exact rfl); (case c3 => exact rfl); (case c4 => exact rfl); k_whole; intro g' L' h' hg' FG' F' N' B' X' T'; (try dsimp only); (try k_fold))
  have hTb : ∀ p ∈ TT.map teObj, g'.get? p.1 = some p.2 := by rw [hg']; exact tt_base N0 (dict_cls hd)
  k_steps
  all_goals first
    | (exfalso; omega)
    | (exfalso; (split at * <;> omega))
    | (refine' ctr_fin0 hret N0s ?hg ?hN ?hk ?hs ⟨rfl, ?P⟩; (case hg => assumption); (case hN => assumption); (case hk => assumption); (case hs => exact SubL.mem (by k_subL)); (case P => exact congrArg Value.bool (beq_iff_eq.mpr (by omega))))
    | (refine' ctr_fin0 hret N0s ?hg ?hN ?hk ?hs ⟨rfl, ?P⟩; (case hg => assumption); (case hN => assumption); (case hk => assumption); (case hs => exact SubL.mem (by k_subL)); (case P => exact congrArg Value.bool (decide_eq_true (ends_one x4 (by assumption) (by assumption) (longest_pos (by assumption))))))
    | (refine' ctr_fin0 hret N0s ?hg ?hN ?hk ?hs ⟨rfl, ?P⟩; (case hg => assumption); (case hN => assumption); (case hk => assumption); (case hs => exact SubL.mem (by k_subL)); (case P => exact congrArg Value.bool (decide_eq_true (ends_one x4 (by assumption) (by assumption) (longest_neg (by assumption))))))
    | (refine' ctr_fin0 hret N0s ?hg ?hN ?hk ?hs ⟨rfl, ?P⟩; (case hg => assumption); (case hN => assumption); (case hk => assumption); (case hs => exact SubL.mem (by k_subL)); (case P => exact congrArg Value.bool (decide_eq_true (by omega))))
end Mine
end
section
open PySem PySem.W PyProof.Rows
set_option Elab.async false
set_option maxRecDepth 100000
set_option maxHeartbeats 8000000
set_option pp.deepTerms false
set_option pp.proofs.threshold 0
set_option linter.unusedSimpArgs false
namespace Mine
theorem c_sample_first (w : World) (x dx : Addr) (k1 k2 k3 k4 k5 k6 q1 q2 q3 q4 : Tok) (la le s8 v4 : Int) (hxd : @LT.lt Nat _ dx x) (l nw : Int) (t1 t2 t3 : Tok) :
    Ctr w 6 173 [.ref x, .int l t1, .int 0 t2, .none, .int nw t3] [(dx, (dictOf [⟨PyData.keyHash w.params (Str.ofString "since"), .str (Str.ofString "since") k1, .none⟩, ⟨PyData.keyHash w.params (Str.ofString "latest"), .str (Str.ofString "latest") k2, .int la q1⟩, ⟨PyData.keyHash w.params (Str.ofString "least"), .str (Str.ofString "least") k3, .int le q2⟩, ⟨PyData.keyHash w.params (Str.ofString "smoothed8"), .str (Str.ofString "smoothed8") k4, .int s8 q3⟩, ⟨PyData.keyHash w.params (Str.ofString "variance4"), .str (Str.ofString "variance4") k5, .int v4 q4⟩, ⟨PyData.keyHash w.params (Str.ofString "first_at"), .str (Str.ofString "first_at") k6, .none⟩] 6))] [(x, instObj 190 dx)] (fun r mt' new => new = [] ∧ r = .none ∧ ∃ t4 t5 t6 t7, mt' = [(dx, (dictOf [⟨PyData.keyHash w.params (Str.ofString "since"), .str (Str.ofString "since") k1, .none⟩, ⟨PyData.keyHash w.params (Str.ofString "latest"), .str (Str.ofString "latest") k2, .int l t4⟩, ⟨PyData.keyHash w.params (Str.ofString "least"), .str (Str.ofString "least") k3, .int l t5⟩, ⟨PyData.keyHash w.params (Str.ofString "smoothed8"), .str (Str.ofString "smoothed8") k4, .int (8 * l) t6⟩, ⟨PyData.keyHash w.params (Str.ofString "variance4"), .str (Str.ofString "variance4") k5, .int (2 * l) t7⟩, ⟨PyData.keyHash w.params (Str.ofString "first_at"), .str (Str.ofString "first_at") k6, .int nw t3⟩] 6))]) := by
  k_with_none
  k_with "LTF" => (with_reducible first | (apply And.left; assumption) | (apply And.left; apply And.right; assumption) | (apply And.right; assumption) | (apply And.left; apply And.right; apply And.right; assumption) | (apply And.right; apply And.right; assumption) | (apply And.left; apply And.right; apply And.right; apply And.right; assumption) | (apply And.right; apply And.right; apply And.right; assumption) | (apply And.left; apply And.right; apply And.right; apply And.right; apply And.right; assumption) | (apply And.right; apply And.right; apply And.right; apply And.right; assumption) | (apply And.left; apply And.right; apply And.right; apply And.right; apply And.right; apply And.right; assumption) | (apply And.right; apply And.right; apply And.right; apply And.right; apply And.right; assumption) | (apply And.left; apply And.right; apply And.right; apply And.right; apply And.right; apply And.right; apply And.right; assumption) | (apply And.right; apply And.right; apply And.right; apply And.right; apply And.right; apply And.right; assumption) | (apply And.left; apply And.right; apply And.right; apply And.right; apply And.right; apply And.right; apply And.right; apply And.right; assumption) | (apply And.right; apply And.right; apply And.right; apply And.right; apply And.right; apply And.right; apply And.right; assumption) | (apply And.left; apply And.right; apply And.right; apply And.right; apply And.right; apply And.right; apply And.right; apply And.right; apply And.right; assumption) | (apply And.right; apply And.right; apply And.right; apply And.right; apply And.right; apply And.right; apply And.right; apply And.right; assumption) | (apply And.left; apply And.right; apply And.right; apply And.right; apply And.right; apply And.right; apply And.right; apply And.right; apply And.right; apply And.right; assumption) | (apply And.right; apply And.right; apply And.right; apply And.right; apply And.right; apply And.right; apply And.right; apply And.right; apply And.right; assumption) | (apply And.left; apply And.right; apply And.right; apply And.right; apply And.right; apply And.right; apply And.right; apply And.right; apply And.right; apply And.right; apply And.right; assumption) | (apply And.right; apply And.right; apply And.right; apply And.right; apply And.right; apply And.right; apply And.right; apply And.right; apply And.right; apply And.right; assumption) | (apply And.left; apply And.right; apply And.right; apply And.right; apply And.right; apply And.right; apply And.right; apply And.right; apply And.right; apply And.right; apply And.right; apply And.right; assumption) | (apply And.right; apply And.right; apply And.right; apply And.right; apply And.right; apply And.right; apply And.right; apply And.right; apply And.right; apply And.right; apply And.right; assumption) | (apply And.left; apply And.right; apply And.right; apply And.right; apply And.right; apply And.right; apply And.right; apply And.right; apply And.right; apply And.right; apply And.right; apply And.right; apply And.right; assumption) | (apply And.right; apply And.right; apply And.right; apply And.right; apply And.right; apply And.right; apply And.right; apply And.right; apply And.right; apply And.right; apply And.right; apply And.right; assumption))
  k_with "exec For Name Name cons nil" => ((k_here; (rename Fr _ _ _ _ => lF'); (with_unfolding_all refine' For_turnsG lF' ?g_r1 ?_; (case g_r1 => exact rfl); k_whole)))
  unfold Ctr
  k_fill
  intro dp un gd cn cs a ccd cl outer A₀ base h₀ L m s Q E mean mg mb B F X N T hk hdp hun hret
  have N0 := N
  clear N
  have N := N0
  simp only [List.nil_append, List.cons_append] at N
  k_dflt (refine' callR ?k1 ?k2 ?k3 ?k4 ?k5 ?kA ?kF ?kK ?k6 ?k7 ?k8 ?k9 ?kB ?_ ?c2 ?c3 ?c4 ?c5; (case kA => exact rfl); (case kF => exact rfl); (case kK => assumption); (case k1 => k_asm); (case k2 => k_asm); (case k3 => k_asm); (case k4 => k_asm); (case k5 => k_asm); (case k6 => k_is); (case k7 => k_is); (case k8 => ktr_room); (case k9 => exact BindsTo.of_eq rfl); (case c5 => decide); (case kB => exact locs rfl); (case c2 => exact rfl); (case c3 => exact rfl); (case c4 => exact rfl); k_whole; intro g' L' h' hg' FG' F' N' B' X' T'; (try dsimp only); (try k_fold))
  k_steps
  all_goals (refine' ctr_fin hret N0 ?hg ?hN ?hk [(_, _)] [] ?hm ?hs ?ho ⟨rfl, rfl, _, _, _, _, rfl⟩; (case hg => assumption); (case hN => assumption); (case hk => assumption); (case hm => rfl); (case hs => k_subL); (case ho => simp only [List.forall_mem_cons, List.nil_append, List.cons_append, List.not_mem_nil, false_implies, implies_true, and_true, true_and] <;> (repeat' (first | apply And.intro | k_ne))))
end Mine
end
section
open PySem PySem.W PyProof.Rows
set_option Elab.async false
set_option maxRecDepth 100000
set_option maxHeartbeats 8000000
set_option pp.deepTerms false
set_option pp.proofs.threshold 0
set_option linter.unusedSimpArgs false
namespace Mine
theorem c_sample_next (w : World) (x dx : Addr) (k1 k2 k3 k4 k5 k6 q1 q2 q3 q4 : Tok) (la le s8 v4 : Int) (hxd : @LT.lt Nat _ dx x) (l nw fa : Int) (t1 t2 t3 q5 : Tok) :
    Ctr w 6 173 [.ref x, .int l t1, .int 0 t2, .none, .int nw t3] [(dx, (dictOf [⟨PyData.keyHash w.params (Str.ofString "since"), .str (Str.ofString "since") k1, .none⟩, ⟨PyData.keyHash w.params (Str.ofString "latest"), .str (Str.ofString "latest") k2, .int la q1⟩, ⟨PyData.keyHash w.params (Str.ofString "least"), .str (Str.ofString "least") k3, .int le q2⟩, ⟨PyData.keyHash w.params (Str.ofString "smoothed8"), .str (Str.ofString "smoothed8") k4, .int s8 q3⟩, ⟨PyData.keyHash w.params (Str.ofString "variance4"), .str (Str.ofString "variance4") k5, .int v4 q4⟩, ⟨PyData.keyHash w.params (Str.ofString "first_at"), .str (Str.ofString "first_at") k6, .int fa q5⟩] 6))] [(x, instObj 190 dx)] (fun r mt' new => new = [] ∧ r = .none ∧ ∃ le' s8' v4' t4 t5 t6 t7, mt' = [(dx, (dictOf [⟨PyData.keyHash w.params (Str.ofString "since"), .str (Str.ofString "since") k1, .none⟩, ⟨PyData.keyHash w.params (Str.ofString "latest"), .str (Str.ofString "latest") k2, .int l t4⟩, ⟨PyData.keyHash w.params (Str.ofString "least"), .str (Str.ofString "least") k3, (.int le' t5)⟩, ⟨PyData.keyHash w.params (Str.ofString "smoothed8"), .str (Str.ofString "smoothed8") k4, (.int s8' t6)⟩, ⟨PyData.keyHash w.params (Str.ofString "variance4"), .str (Str.ofString "variance4") k5, (.int v4' t7)⟩, ⟨PyData.keyHash w.params (Str.ofString "first_at"), .str (Str.ofString "first_at") k6, .int fa q5⟩] 6))] ∧ s8' = s8 - s8 / 8 + l ∧ v4' = v4 - v4 / 4 + (s8 / 8 - l).natAbs) := by
  k_with_none
  k_with "LTF" => (with_reducible first | (apply And.left; assumption) | (apply And.left; apply And.right; assumption) | (apply And.right; assumption) | (apply And.left; apply And.right; apply And.right; assumption) | (apply And.right; apply And.right; assumption) | (apply And.left; apply And.right; apply And.right; apply And.right; assumption) | (apply And.right; apply And.right; apply And.right; assumption) | (apply And.left; apply And.right; apply And.right; apply And.right; apply And.right; assumption) | (apply And.right; apply And.right; apply And.right; apply And.right; assumption) | (apply And.left; apply And.right; apply And.right; apply And.right; apply And.right; apply And.right; assumption) | (apply And.right; apply And.right; apply And.right; apply And.right; apply And.right; assumption) | (apply And.left; apply And.right; apply And.right; apply And.right; apply And.right; apply And.right; apply And.right; assumption) | (apply And.right; apply And.right; apply And.right; apply And.right; apply And.right; apply And.right; assumption) | (apply And.left; apply And.right; apply And.right; apply And.right; apply And.right; apply And.right; apply And.right; apply And.right; assumption) | (apply And.right; apply And.right; apply And.right; apply And.right; apply And.right; apply And.right; apply And.right; assumption) | (apply And.left; apply And.right; apply And.right; apply And.right; apply And.right; apply And.right; apply And.right; apply And.right; apply And.right; assumption) | (apply And.right; apply And.right; apply And.right; apply And.right; apply And.right; apply And.right; apply And.right; apply And.right; assumption) | (apply And.left; apply And.right; apply And.right; apply And.right; apply And.right; apply And.right; apply And.right; apply And.right; apply And.right; apply And.right; assumption) | (apply And.right; apply And.right; apply And.right; apply And.right; apply And.right; apply And.right; apply And.right; apply And.right; apply And.right; assumption) | (apply And.left; apply And.right; apply And.right; apply And.right; apply And.right; apply And.right; apply And.right; apply And.right; apply And.right; apply And.right; apply And.right; assumption) | (apply And.right; apply And.right; apply And.right; apply And.right; apply And.right; apply And.right; apply And.right; apply And.right; apply And.right; apply And.right; assumption) | (apply And.left; apply And.right; apply And.right; apply And.right; apply And.right; apply And.right; apply And.right; apply And.right; apply And.right; apply And.right; apply And.right; apply And.right; assumption) | (apply And.right; apply And.right; apply And.right; apply And.right; apply And.right; apply And.right; apply And.right; apply And.right; apply And.right; apply And.right; apply And.right; assumption) | (apply And.left; apply And.right; apply And.right; apply And.right; apply And.right; apply And.right; apply And.right; apply And.right; apply And.right; apply And.right; apply And.right; apply And.right; apply And.right; assumption) | (apply And.right; apply And.right; apply And.right; apply And.right; apply And.right; apply And.right; apply And.right; apply And.right; apply And.right; apply And.right; apply And.right; apply And.right; assumption))
  k_with "exec For Name Name cons nil" => ((k_here; (rename Fr _ _ _ _ => lF'); (with_unfolding_all refine' For_turnsG lF' ?g_r1 ?_; (case g_r1 => exact rfl); k_whole)))
  unfold Ctr
  k_fill
  intro dp un gd cn cs a ccd cl outer A₀ base h₀ L m s Q E mean mg mb B F X N T hk hdp hun hret
  have N0 := N
  clear N
  have N := N0
  simp only [List.nil_append, List.cons_append] at N
  k_dflt (refine' callR ?k1 ?k2 ?k3 ?k4 ?k5 ?kA ?kF ?kK ?k6 ?k7 ?k8 ?k9 ?kB ?_ ?c2 ?c3 ?c4 ?c5; (case kA => exact rfl); (case kF => exact rfl); (case kK => assumption); (case k1 => k_asm); (case k2 => k_asm); (case k3 => k_asm); (case k4 => k_asm); (case k5 => k_asm); (case k6 => k_is); (case k7 => k_is); (case k8 => ktr_room); (case k9 => exact BindsTo.of_eq rfl); (case c5 => decide); (case kB => exact locs rfl); (case c2 => exact rfl); (case c3 => exact rfl); (case c4 => exact rfl); k_whole; intro g' L' h' hg' FG' F' N' B' X' T'; (try dsimp only); (try k_fold))
  k_steps
  all_goals (refine' ctr_fin hret N0 ?hg ?hN ?hk [(_, _)] [] ?hm ?hs ?ho ⟨rfl, rfl, _, _, _, _, _, _, _, rfl, ?q1, ?q2⟩; (case hg => assumption); (case hN => assumption); (case hk => assumption); (case hm => rfl); (case hs => k_subL); (case ho => simp only [List.forall_mem_cons, List.nil_append, List.cons_append, List.not_mem_nil, false_implies, implies_true, and_true, true_and] <;> (repeat' (first | apply And.intro | k_ne))); (case q1 => simp only [Int.fdiv_eq_ediv_of_nonneg _ (show (0 : Int) ≤ 8 by decide), Int.fdiv_eq_ediv_of_nonneg _ (show (0 : Int) ≤ 4 by decide)]; omega); (case q2 => simp only [Int.fdiv_eq_ediv_of_nonneg _ (show (0 : Int) ≤ 8 by decide), Int.fdiv_eq_ediv_of_nonneg _ (show (0 : Int) ≤ 4 by decide)]; omega))
end Mine
end
section
open PySem PySem.W PyProof.Rows
set_option Elab.async false
set_option maxRecDepth 100000
set_option maxHeartbeats 8000000
set_option pp.deepTerms false
set_option pp.proofs.threshold 0
set_option linter.unusedSimpArgs false
namespace Mine
theorem c_probe_base (w : World) (x dx : Addr) (k1 k2 k3 k4 k5 k6 q1 q2 q3 q4 : Tok) (la le s8 v4 : Int) (hxd : @LT.lt Nat _ dx x) (fv : Value) :
    Ctr w 6 187 [.ref x] [] [(x, instObj 190 dx), (dx, (dictOf [⟨PyData.keyHash w.params (Str.ofString "since"), .str (Str.ofString "since") k1, .none⟩, ⟨PyData.keyHash w.params (Str.ofString "latest"), .str (Str.ofString "latest") k2, .int la q1⟩, ⟨PyData.keyHash w.params (Str.ofString "least"), .str (Str.ofString "least") k3, .int le q2⟩, ⟨PyData.keyHash w.params (Str.ofString "smoothed8"), .str (Str.ofString "smoothed8") k4, .int s8 q3⟩, ⟨PyData.keyHash w.params (Str.ofString "variance4"), .str (Str.ofString "variance4") k5, .int v4 q4⟩, ⟨PyData.keyHash w.params (Str.ofString "first_at"), .str (Str.ofString "first_at") k6, fv⟩] 6))] (fun r mt' new => new = [] ∧ ∃ t, r = .int (s8 / 8 + max v4 1000) t) := by
  k_with_none
  k_with "LTF" => (with_reducible first | (apply And.left; assumption) | (apply And.left; apply And.right; assumption) | (apply And.right; assumption) | (apply And.left; apply And.right; apply And.right; assumption) | (apply And.right; apply And.right; assumption) | (apply And.left; apply And.right; apply And.right; apply And.right; assumption) | (apply And.right; apply And.right; apply And.right; assumption) | (apply And.left; apply And.right; apply And.right; apply And.right; apply And.right; assumption) | (apply And.right; apply And.right; apply And.right; apply And.right; assumption) | (apply And.left; apply And.right; apply And.right; apply And.right; apply And.right; apply And.right; assumption) | (apply And.right; apply And.right; apply And.right; apply And.right; apply And.right; assumption) | (apply And.left; apply And.right; apply And.right; apply And.right; apply And.right; apply And.right; apply And.right; assumption) | (apply And.right; apply And.right; apply And.right; apply And.right; apply And.right; apply And.right; assumption) | (apply And.left; apply And.right; apply And.right; apply And.right; apply And.right; apply And.right; apply And.right; apply And.right; assumption) | (apply And.right; apply And.right; apply And.right; apply And.right; apply And.right; apply And.right; apply And.right; assumption) | (apply And.left; apply And.right; apply And.right; apply And.right; apply And.right; apply And.right; apply And.right; apply And.right; apply And.right; assumption) | (apply And.right; apply And.right; apply And.right; apply And.right; apply And.right; apply And.right; apply And.right; apply And.right; assumption) | (apply And.left; apply And.right; apply And.right; apply And.right; apply And.right; apply And.right; apply And.right; apply And.right; apply And.right; apply And.right; assumption) | (apply And.right; apply And.right; apply And.right; apply And.right; apply And.right; apply And.right; apply And.right; apply And.right; apply And.right; assumption) | (apply And.left; apply And.right; apply And.right; apply And.right; apply And.right; apply And.right; apply And.right; apply And.right; apply And.right; apply And.right; apply And.right; assumption) | (apply And.right; apply And.right; apply And.right; apply And.right; apply And.right; apply And.right; apply And.right; apply And.right; apply And.right; apply And.right; assumption) | (apply And.left; apply And.right; apply And.right; apply And.right; apply And.right; apply And.right; apply And.right; apply And.right; apply And.right; apply And.right; apply And.right; apply And.right; assumption) | (apply And.right; apply And.right; apply And.right; apply And.right; apply And.right; apply And.right; apply And.right; apply And.right; apply And.right; apply And.right; apply And.right; assumption) | (apply And.left; apply And.right; apply And.right; apply And.right; apply And.right; apply And.right; apply And.right; apply And.right; apply And.right; apply And.right; apply And.right; apply And.right; apply And.right; assumption) | (apply And.right; apply And.right; apply And.right; apply And.right; apply And.right; apply And.right; apply And.right; apply And.right; apply And.right; apply And.right; apply And.right; apply And.right; assumption))
  k_with "exec For Name Name cons nil" => ((k_here; (rename Fr _ _ _ _ => lF'); (with_unfolding_all refine' For_turnsG lF' ?g_r1 ?_; (case g_r1 => exact rfl); k_whole)))
  unfold Ctr
  k_fill
  intro dp un gd cn cs a ccd cl outer A₀ base h₀ L m s Q E mean mg mb B F X N T hk hdp hun hret
  have N0 := N
  clear N
  have N := N0
  simp only [List.nil_append, List.cons_append] at N
  k_dflt (refine' callR ?k1 ?k2 ?k3 ?k4 ?k5 ?kA ?kF ?kK ?k6 ?k7 ?k8 ?k9 ?kB ?_ ?c2 ?c3 ?c4 ?c5; (case kA => exact rfl); (case kF => exact rfl); (case kK => assumption); (case k1 => k_asm); (case k2 => k_asm); (case k3 => k_asm); (case k4 => k_asm); (case k5 => k_asm); (case k6 => k_is); (case k7 => k_is); (case k8 => ktr_room); (case k9 => exact BindsTo.of_eq rfl); (case c5 => decide); (case kB => exact locs rfl); (case c2 => exact rfl); (case c3 => exact rfl); (case c4 => exact rfl); k_whole; intro g' L' h' hg' FG' F' N' B' X' T'; (try dsimp only); (try k_fold))
  k_steps
  all_goals (refine' ctr_fin hret N0 ?hg ?hN ?hk [] [] ?hm ?hs ?ho ⟨rfl, _, ?q1⟩; (case hg => assumption); (case hN => assumption); (case hk => assumption); (case hm => rfl); (case hs => k_subL); (case ho => simp only [List.forall_mem_cons, List.nil_append, List.cons_append, List.not_mem_nil, false_implies, implies_true, and_true, true_and] <;> (repeat' (first | apply And.intro | k_ne))); (case q1 => refine congrArg (fun z => Value.int z _) ?_; rw [Int.fdiv_eq_ediv_of_nonneg _ (by decide)]; omega))
end Mine
end
section
open PySem PySem.W PyProof.Rows
set_option Elab.async false
set_option maxRecDepth 100000
set_option maxHeartbeats 8000000
set_option pp.deepTerms false
set_option pp.proofs.threshold 0
set_option linter.unusedSimpArgs false
namespace Mine
theorem c_tell_peer (w : World) (x dx : Addr) (k1 k2 k3 k4 q1 q2 : Tok) (ow pe : Int) (sv : Value) (hxd : @LT.lt Nat _ dx x) (ha : Bool) (np : Int) (t1 : Tok) :
    Ctr w 4 88 [.ref x, .int np t1] [(dx, (dictOf [⟨PyData.keyHash w.params (Str.ofString "own"), .str (Str.ofString "own") k1, .int ow q1⟩, ⟨PyData.keyHash w.params (Str.ofString "peer"), .str (Str.ofString "peer") k2, .int pe q2⟩, ⟨PyData.keyHash w.params (Str.ofString "since"), .str (Str.ofString "since") k3, sv⟩, ⟨PyData.keyHash w.params (Str.ofString "has_asked"), .str (Str.ofString "has_asked") k4, .bool ha⟩] 4))] [(x, instObj 126 dx)] (fun r mt' new => new = [] ∧ r = .none ∧ mt' = [(dx, (dictOf [⟨PyData.keyHash w.params (Str.ofString "own"), .str (Str.ofString "own") k1, .int ow q1⟩, ⟨PyData.keyHash w.params (Str.ofString "peer"), .str (Str.ofString "peer") k2, .int np t1⟩, ⟨PyData.keyHash w.params (Str.ofString "since"), .str (Str.ofString "since") k3, sv⟩, ⟨PyData.keyHash w.params (Str.ofString "has_asked"), .str (Str.ofString "has_asked") k4, .bool ha⟩] 4))]) := by
  k_with_none
  k_with "LTF" => (with_reducible first | (apply And.left; assumption) | (apply And.left; apply And.right; assumption) | (apply And.right; assumption) | (apply And.left; apply And.right; apply And.right; assumption) | (apply And.right; apply And.right; assumption) | (apply And.left; apply And.right; apply And.right; apply And.right; assumption) | (apply And.right; apply And.right; apply And.right; assumption) | (apply And.left; apply And.right; apply And.right; apply And.right; apply And.right; assumption) | (apply And.right; apply And.right; apply And.right; apply And.right; assumption) | (apply And.left; apply And.right; apply And.right; apply And.right; apply And.right; apply And.right; assumption) | (apply And.right; apply And.right; apply And.right; apply And.right; apply And.right; assumption) | (apply And.left; apply And.right; apply And.right; apply And.right; apply And.right; apply And.right; apply And.right; assumption) | (apply And.right; apply And.right; apply And.right; apply And.right; apply And.right; apply And.right; assumption) | (apply And.left; apply And.right; apply And.right; apply And.right; apply And.right; apply And.right; apply And.right; apply And.right; assumption) | (apply And.right; apply And.right; apply And.right; apply And.right; apply And.right; apply And.right; apply And.right; assumption) | (apply And.left; apply And.right; apply And.right; apply And.right; apply And.right; apply And.right; apply And.right; apply And.right; apply And.right; assumption) | (apply And.right; apply And.right; apply And.right; apply And.right; apply And.right; apply And.right; apply And.right; apply And.right; assumption) | (apply And.left; apply And.right; apply And.right; apply And.right; apply And.right; apply And.right; apply And.right; apply And.right; apply And.right; apply And.right; assumption) | (apply And.right; apply And.right; apply And.right; apply And.right; apply And.right; apply And.right; apply And.right; apply And.right; apply And.right; assumption) | (apply And.left; apply And.right; apply And.right; apply And.right; apply And.right; apply And.right; apply And.right; apply And.right; apply And.right; apply And.right; apply And.right; assumption) | (apply And.right; apply And.right; apply And.right; apply And.right; apply And.right; apply And.right; apply And.right; apply And.right; apply And.right; apply And.right; assumption) | (apply And.left; apply And.right; apply And.right; apply And.right; apply And.right; apply And.right; apply And.right; apply And.right; apply And.right; apply And.right; apply And.right; apply And.right; assumption) | (apply And.right; apply And.right; apply And.right; apply And.right; apply And.right; apply And.right; apply And.right; apply And.right; apply And.right; apply And.right; apply And.right; assumption) | (apply And.left; apply And.right; apply And.right; apply And.right; apply And.right; apply And.right; apply And.right; apply And.right; apply And.right; apply And.right; apply And.right; apply And.right; apply And.right; assumption) | (apply And.right; apply And.right; apply And.right; apply And.right; apply And.right; apply And.right; apply And.right; apply And.right; apply And.right; apply And.right; apply And.right; apply And.right; assumption))
  k_with "exec For Name Name cons nil" => ((k_here; (rename Fr _ _ _ _ => lF'); (with_unfolding_all refine' For_turnsG lF' ?g_r1 ?_; (case g_r1 => exact rfl); k_whole)))
  unfold Ctr
  k_fill
  intro dp un gd cn cs a ccd cl outer A₀ base h₀ L m s Q E mean mg mb B F X N T hk hdp hun hret
  have N0 := N
  clear N
  have N := N0
  simp only [List.nil_append, List.cons_append] at N
  k_dflt (refine' callR ?k1 ?k2 ?k3 ?k4 ?k5 ?kA ?kF ?kK ?k6 ?k7 ?k8 ?k9 ?kB ?_ ?c2 ?c3 ?c4 ?c5; (case kA => exact rfl); (case kF => exact rfl); (case kK => assumption); (case k1 => k_asm); (case k2 => k_asm); (case k3 => k_asm); (case k4 => k_asm); (case k5 => k_asm); (case k6 => k_is); (case k7 => k_is); (case k8 => ktr_room); (case k9 => exact BindsTo.of_eq rfl); (case c5 => decide); (case kB => exact locs rfl); (case c2 => exact rfl); (case c3 => exact rfl); (case c4 => exact rfl); k_whole; intro g' L' h' hg' FG' F' N' B' X' T'; (try dsimp only); (try k_fold))
  k_steps
  all_goals (refine' ctr_fin hret N0 ?hg ?hN ?hk [(_, _)] [] ?hm ?hs ?ho ⟨rfl, rfl, rfl⟩; (case hg => assumption); (case hN => assumption); (case hk => assumption); (case hm => rfl); (case hs => k_subL); (case ho => simp only [List.forall_mem_cons, List.nil_append, List.cons_append, List.not_mem_nil, false_implies, implies_true, and_true, true_and] <;> (repeat' (first | apply And.intro | k_ne))))
end Mine
end
section
open PySem PySem.W PyProof.Rows
set_option Elab.async false
set_option maxRecDepth 100000
set_option maxHeartbeats 8000000
set_option pp.deepTerms false
set_option pp.proofs.threshold 0
set_option linter.unusedSimpArgs false
namespace Mine
theorem c_on_received (w : World) (x dx : Addr) (k1 k2 k3 k4 q1 q2 : Tok) (ow pe : Int) (sv : Value) (hxd : @LT.lt Nat _ dx x) (ha : Bool) (nw : Int) (t1 : Tok) :
    Ctr w 4 95 [.ref x, .int nw t1] [(dx, (dictOf [⟨PyData.keyHash w.params (Str.ofString "own"), .str (Str.ofString "own") k1, .int ow q1⟩, ⟨PyData.keyHash w.params (Str.ofString "peer"), .str (Str.ofString "peer") k2, .int pe q2⟩, ⟨PyData.keyHash w.params (Str.ofString "since"), .str (Str.ofString "since") k3, sv⟩, ⟨PyData.keyHash w.params (Str.ofString "has_asked"), .str (Str.ofString "has_asked") k4, .bool ha⟩] 4))] [(x, instObj 126 dx)] (fun r mt' new => new = [] ∧ r = .none ∧ mt' = [(dx, (dictOf [⟨PyData.keyHash w.params (Str.ofString "own"), .str (Str.ofString "own") k1, .int ow q1⟩, ⟨PyData.keyHash w.params (Str.ofString "peer"), .str (Str.ofString "peer") k2, .int pe q2⟩, ⟨PyData.keyHash w.params (Str.ofString "since"), .str (Str.ofString "since") k3, .int nw t1⟩, ⟨PyData.keyHash w.params (Str.ofString "has_asked"), .str (Str.ofString "has_asked") k4, .bool false⟩] 4))]) := by
  k_with_none
  k_with "LTF" => (with_reducible first | (apply And.left; assumption) | (apply And.left; apply And.right; assumption) | (apply And.right; assumption) | (apply And.left; apply And.right; apply And.right; assumption) | (apply And.right; apply And.right; assumption) | (apply And.left; apply And.right; apply And.right; apply And.right; assumption) | (apply And.right; apply And.right; apply And.right; assumption) | (apply And.left; apply And.right; apply And.right; apply And.right; apply And.right; assumption) | (apply And.right; apply And.right; apply And.right; apply And.right; assumption) | (apply And.left; apply And.right; apply And.right; apply And.right; apply And.right; apply And.right; assumption) | (apply And.right; apply And.right; apply And.right; apply And.right; apply And.right; assumption) | (apply And.left; apply And.right; apply And.right; apply And.right; apply And.right; apply And.right; apply And.right; assumption) | (apply And.right; apply And.right; apply And.right; apply And.right; apply And.right; apply And.right; assumption) | (apply And.left; apply And.right; apply And.right; apply And.right; apply And.right; apply And.right; apply And.right; apply And.right; assumption) | (apply And.right; apply And.right; apply And.right; apply And.right; apply And.right; apply And.right; apply And.right; assumption) | (apply And.left; apply And.right; apply And.right; apply And.right; apply And.right; apply And.right; apply And.right; apply And.right; apply And.right; assumption) | (apply And.right; apply And.right; apply And.right; apply And.right; apply And.right; apply And.right; apply And.right; apply And.right; assumption) | (apply And.left; apply And.right; apply And.right; apply And.right; apply And.right; apply And.right; apply And.right; apply And.right; apply And.right; apply And.right; assumption) | (apply And.right; apply And.right; apply And.right; apply And.right; apply And.right; apply And.right; apply And.right; apply And.right; apply And.right; assumption) | (apply And.left; apply And.right; apply And.right; apply And.right; apply And.right; apply And.right; apply And.right; apply And.right; apply And.right; apply And.right; apply And.right; assumption) | (apply And.right; apply And.right; apply And.right; apply And.right; apply And.right; apply And.right; apply And.right; apply And.right; apply And.right; apply And.right; assumption) | (apply And.left; apply And.right; apply And.right; apply And.right; apply And.right; apply And.right; apply And.right; apply And.right; apply And.right; apply And.right; apply And.right; apply And.right; assumption) | (apply And.right; apply And.right; apply And.right; apply And.right; apply And.right; apply And.right; apply And.right; apply And.right; apply And.right; apply And.right; apply And.right; assumption) | (apply And.left; apply And.right; apply And.right; apply And.right; apply And.right; apply And.right; apply And.right; apply And.right; apply And.right; apply And.right; apply And.right; apply And.right; apply And.right; assumption) | (apply And.right; apply And.right; apply And.right; apply And.right; apply And.right; apply And.right; apply And.right; apply And.right; apply And.right; apply And.right; apply And.right; apply And.right; assumption))
  k_with "exec For Name Name cons nil" => ((k_here; (rename Fr _ _ _ _ => lF'); (with_unfolding_all refine' For_turnsG lF' ?g_r1 ?_; (case g_r1 => exact rfl); k_whole)))
  unfold Ctr
  k_fill
  intro dp un gd cn cs a ccd cl outer A₀ base h₀ L m s Q E mean mg mb B F X N T hk hdp hun hret
  have N0 := N
  clear N
  have N := N0
  simp only [List.nil_append, List.cons_append] at N
  k_dflt (refine' callR ?k1 ?k2 ?k3 ?k4 ?k5 ?kA ?kF ?kK ?k6 ?k7 ?k8 ?k9 ?kB ?_ ?c2 ?c3 ?c4 ?c5; (case kA => exact rfl); (case kF => exact rfl); (case kK => assumption); (case k1 => k_asm); (case k2 => k_asm); (case k3 => k_asm); (case k4 => k_asm); (case k5 => k_asm); (case k6 => k_is); (case k7 => k_is); (case k8 => ktr_room); (case k9 => exact BindsTo.of_eq rfl); (case c5 => decide); (case kB => exact locs rfl); (case c2 => exact rfl); (case c3 => exact rfl); (case c4 => exact rfl); k_whole; intro g' L' h' hg' FG' F' N' B' X' T'; (try dsimp only); (try k_fold))
  k_steps
  all_goals (refine' ctr_fin hret N0 ?hg ?hN ?hk [(_, _)] [] ?hm ?hs ?ho ⟨rfl, rfl, rfl⟩; (case hg => assumption); (case hN => assumption); (case hk => assumption); (case hm => rfl); (case hs => k_subL); (case ho => simp only [List.forall_mem_cons, List.nil_append, List.cons_append, List.not_mem_nil, false_implies, implies_true, and_true, true_and] <;> (repeat' (first | apply And.intro | k_ne))))
end Mine
end
section
open PySem PySem.W PyProof.Rows
set_option maxRecDepth 100000
set_option maxHeartbeats 1000000
namespace Mine
open PySem.Spec PySem.Calls
section
variable {prog : Program} {w : World} {A : Around} {E : Value → Shared → Prop} {s : Shared} {env : Env} {h₀ : Heap} {x : Str} {body : List Stmt} {Q : Flow → Shared → Prop}
/-- where a turn of a loop over a range ends -/
def Post1 (h₀ : Heap) (L : Addr) (J : (Str → Option Value) → List (Addr × Obj) → Prop) (own : Addr × Obj) (adr : List Addr) (s₁ : Shared) (Q : Flow → Shared → Prop) (f : Flow) (s₂ : Shared) : Prop :=
  match f with
  | .ret v => Q (.ret v) s₂
  | .brk => Q .next s₂
  | _ => ∃ h' tk m' news' nx, s₂ = { s₁ with heap := h', toks := tk } ∧ Fr h₀ L h' m' ∧ News h₀ L h' news' ∧ (∀ p ∈ nx, p ∈ news') ∧ own ∈ news' ∧ nx.map (·.1) = adr ∧ J m' nx
theorem iter_range1 {r : Addr} {b₀ : Int} {t₀ u₀ v₀ : Tok} {n : Nat} {m₀ : Str → Option Value} {news : List (Addr × Obj)} (J : Nat → (Str → Option Value) → List (Addr × Obj) → Prop)
    (hh : A.handled = none) (hr : IsRange s.heap r 0 b₀ 1 t₀ u₀ v₀) (hb : b₀ = (n : Int)) (h9 : n ≤ 9) (F : Fr h₀ env.locals s.heap m₀) (N : News h₀ env.locals s.heap news) (hJ : J 0 m₀ news)
    (turn : ∀ (i : Nat) t m₁ nx h tk I oI, i < n → nx.map (·.1) = news.map (·.1) → (∀ p ∈ nx, p.1 < I) → J i m₁ nx → Fr h₀ env.locals h (fun y => if y = x then some (.int (i : Int) t) else m₁ y) → News h₀ env.locals h ((I, oI) :: nx) →
      wpAny (model prog w) A (execs body env) (Post1 h₀ env.locals (J (i + 1)) (I, oI) (news.map (·.1)) { s with heap := h, toks := tk } Q) E { s with heap := h, toks := tk })
    (done : ∀ m₁ nx h tk, J n m₁ nx → Fr h₀ env.locals h m₁ → News h₀ env.locals h nx → Q .next { s with heap := h, toks := tk }) :
    wpAny (model prog w) A (pyIter (.ref r)) (fun it s₂ => LoopAtV prog w A h₀ env x body Q E it s₂) E s := by
  subst hb
  have hn : Builtin.Range.rangeSize 0 (n : Int) 1 = (n : Int) := by
    have := rangeSize_nat 0 (n : Int)
    rw [this]; omega
  refine wpAny_pyIter_range hr (small_one (by omega) (by omega) (by omega) (by omega)) ?_
  have W : Walks prog w A s.heap.objs.size [s.heap.objs.size] [s.heap.objs.size] n (fun i v => i < n ∧ ∃ t, v = .int (0 + i * 1) t)
      (fun i h => IsRangeIter h s.heap.objs.size (0 + (i : Nat) * 1) ((n : Int) - (i : Nat)) 1) := (Walks.range hh _ 0 1 n).bound
  refine ⟨_, [s.heap.objs.size], [s.heap.objs.size], n, _, _, m₀, news, fun i m nx => nx.map (·.1) = news.map (·.1) ∧ J i m nx, rfl, W, ?_, ?_, ?_, ?_, F.push _, (fun p hp => ⟨Heap.get?_push_of_some _ (N p hp).1, (N p hp).2⟩), ⟨rfl, hJ⟩, ?_, ?_⟩
  · intro hm
    exact absurd F.ns.lt ((List.mem_singleton.mp hm) ▸ Nat.lt_irrefl _)
  · intro b hb
    rw [List.mem_singleton.mp hb]
    exact next_is_new F
  · intro p hp hI
    exact absurd (Heap.lt_size (N p hp).1) ((List.mem_singleton.mp hI) ▸ Nat.lt_irrefl _)
  · show IsRangeIter _ _ _ _ _
    rw [hn]; simpa using Heap.get?_push_size _ rfl
  · rintro i v m₁ nx s₁ own ⟨hh', tk', rfl⟩ hin ⟨_, t, rfl⟩ ⟨hadr, hJ'⟩ hoff hown hget hall hSt F₁ N₁
    obtain ⟨oI, hoI⟩ : ∃ o, hh'.get? s.heap.objs.size = some o := ⟨_, hSt⟩
    have hin' : (s.heap.objs.size, oI) ∈ own := hall _ (.head _) (next_is_new F) _ hoI
    have hone : ∀ p ∈ own, p = (s.heap.objs.size, oI) := fun p hp => by
      have h1 := List.mem_singleton.mp (hown p hp)
      have h2 := hget p hp
      rw [h1] at h2
      have h3 : oI = p.2 := Option.some.inj (hoI.symm.trans h2)
      rw [h3, ← h1]
    have hlt : ∀ p ∈ nx, p.1 < s.heap.objs.size := fun p hp => by
      have h1 : p.1 ∈ news.map (·.1) := by rw [← hadr]; exact List.mem_map_of_mem hp
      obtain ⟨q, hq, e⟩ := List.mem_map.mp h1
      rw [← e]
      exact Heap.lt_size (N q hq).1
    have N₂ : News h₀ env.locals hh' ((s.heap.objs.size, oI) :: nx) := fun p hp => N₁ p (by
      rcases List.mem_cons.mp hp with rfl | hp
      · exact List.mem_append_left _ hin'
      · exact List.mem_append_right _ hp)
    have e0 : (0 : Int) + (i : Int) * 1 = (i : Int) := by omega
    rw [e0] at F₁
    refine wpAny_mono (turn i t m₁ nx hh' tk' _ oI hin hadr hlt hJ' F₁ N₂) (fun f s₂ p => ?_) fun _ _ e => e
    have fin : (∃ h' tk m' news' nx', s₂ = { ({ s with heap := hh', toks := tk' } : Shared) with heap := h', toks := tk } ∧ Fr h₀ env.locals h' m' ∧ News h₀ env.locals h' news' ∧ (∀ p ∈ nx', p ∈ news') ∧ (s.heap.objs.size, oI) ∈ news' ∧ nx'.map (·.1) = news.map (·.1) ∧ J (i + 1) m' nx') →
        LoopStepU h₀ env.locals [s.heap.objs.size] own (fun m nx => nx.map (·.1) = news.map (·.1) ∧ J (i + 1) m nx) { s with heap := hh', toks := tk' } .next s₂ := by
      rintro ⟨h', tk, m', news', nx', e, F', N', h1, h2, ha, hm⟩
      refine ⟨rfl, h', tk, m', nx', e, F', fun p hp => N' p ((List.mem_append.mp hp).elim (fun q => (hone p q) ▸ h2) (h1 p)), fun p hp hq => ?_, ha, hm⟩
      have h3 : p.1 ∈ nx'.map (·.1) := List.mem_map_of_mem hp
      rw [ha] at h3
      obtain ⟨q, hq1, hq2⟩ := List.mem_map.mp h3
      have h4 := Heap.lt_size (N q hq1).1
      rw [hq2, List.mem_singleton.mp hq] at h4
      exact Nat.lt_irrefl _ h4
    cases f with
    | ret v => exact .ret p
    | brk => exact .brk p
    | next => exact .next (fin p)
    | cont => exact .cont (fin p)
  · rintro h' tk m' news' F' N' _ ⟨_, hJ'⟩
    exact done m' news' h' tk hJ' F' N'
end
section
variable {prog : Program} {w : World} {A : Around} {E : Value → Shared → Prop} {s : Shared} {h₀ : Heap} {L a : Addr} {news : List (Addr × Obj)} {n : Nat} {Q : Value → Shared → Prop}
/-- an item of a written list of four ints -/
theorem menu4 {value slice : PySem.Expr} {x0 x1 x2 x3 k : Int} {t0 t1 t2 t3 u : Tok} (N : News h₀ L s.heap news) (ma : (a, ({ cls := .type "list", data := .seq #[.int x0 t0, .int x1 t1, .int x2 t2, .int x3 t3] n } : Obj)) ∈ news) (h0 : 0 ≤ k) (h4 : k < 4) (h : ∀ z t, Q (.int z t) s)
    (hs : subscripted slice false (.ref a) (.int k u) = operate [.ref a, .int k u] (getItem (.ref a) (.int k u)) := by with_unfolding_all rfl) :
    wpAny (model prog w) A (subscriptTail value slice (.ref a) (.int k u)) Q E s := by
  have hl : s.heap.IsList a #[.int x0 t0, .int x1 t1, .int x2 t2, .int x3 t3] := ⟨_, (N _ ma).1, rfl, _, rfl⟩
  refine tail_any hl.typeIs slot_list_getitem.lookup ?_ hs
  have : k = 0 ∨ k = 1 ∨ k = 2 ∨ k = 3 := by omega
  rcases this with rfl | rfl | rfl | rfl
  · exact wpAny_getItem_list hl (by decide) (by decide) (x := .int x0 t0) rfl (h _ _)
  · exact wpAny_getItem_list hl (by decide) (by decide) (x := .int x1 t1) rfl (h _ _)
  · exact wpAny_getItem_list hl (by decide) (by decide) (x := .int x2 t2) rfl (h _ _)
  · exact wpAny_getItem_list hl (by decide) (by decide) (x := .int x3 t3) rfl (h _ _)
end
theorem UpdF.addr {d : Addr} {o : Obj} {l : List (Addr × Obj)} {g : Obj → List (Addr × Obj)} (U : UpdF d o l g) (o' : Obj) : (g o').map (·.1) = l.map (·.1) := by
  obtain ⟨pre, post, e1, e2, _, _⟩ := U.split
  rw [e1, e2]
  simp
theorem UpdF.same {d : Addr} {o : Obj} {l : List (Addr × Obj)} {g : Obj → List (Addr × Obj)} (U : UpdF d o l g) : g o = l := by
  obtain ⟨pre, post, e1, e2, _, _⟩ := U.split
  rw [e1, e2]
end Mine
end
section
open PySem PySem.W PyProof.Rows
set_option maxRecDepth 100000
set_option maxHeartbeats 1000000
namespace Mine
open PySem.Spec PySem.Calls
/-- what the way's dict says of its samples -/
def SampOk (fv : Value) (s8 v4 : Int) : Prop := ∃ fa q, fv = .int fa q ∧ 0 ≤ s8 ∧ s8 ≤ 480000 ∧ 0 ≤ v4 ∧ v4 ≤ 240000
theorem samp_first {l : Int} (h1 : 0 ≤ l) (h2 : l ≤ 60000) (fa : Int) (q : Tok) : SampOk (.int fa q) (8 * l) (2 * l) := ⟨fa, q, rfl, by omega, by omega, by omega, by omega⟩
theorem samp_next {l s8 v4 s8' v4' : Int} (h1 : 0 ≤ l) (h2 : l ≤ 60000) {fa : Int} {q : Tok} (h : SampOk (.int fa q) s8 v4) (e1 : s8' = s8 - s8 / 8 + l) (e2 : v4' = v4 - v4 / 4 + (s8 / 8 - l).natAbs) : SampOk (.int fa q) s8' v4' := by
  obtain ⟨_, _, e, a1, a2, a3, a4⟩ := h
  refine ⟨fa, q, rfl, ?_, ?_, ?_, ?_⟩ <;> omega
abbrev xT : Str := Str.ofString "turn"
section
variable {w : World} {A : Around} {E : Value → Shared → Prop} {s : Shared} {env : Env} {h₀ : Heap} {body : List Stmt} {Q : Flow → Shared → Prop} {g2 : Obj → Obj → List (Addr × Obj)} {k1 k2 k3 k4 k5 k6 : Tok} {l : Addr} {e : Nat} {m₀ : Str → Option Value}
def SPost (w : World) (h₀ : Heap) (L : Addr) (g2 : Obj → Obj → List (Addr × Obj)) (k1 k2 k3 k4 k5 k6 : Tok) (l : Addr) (e : Nat) (m₀ : Str → Option Value) (own : Addr × Obj) (s₁ : Shared) (Q : Flow → Shared → Prop) (f : Flow) (s₂ : Shared) : Prop :=
  match f with
  | .ret v => Q (.ret v) s₂
  | .brk => Q .next s₂
  | _ => ∃ h' tk m' all la le s8 v4 q1 q2 q3 q4 fv kb tb, s₂ = { s₁ with heap := h', toks := tk } ∧ Fr h₀ L h' m' ∧ News h₀ L h' all ∧ (∀ p ∈ g2 (dictOf [⟨PyData.keyHash w.params (Str.ofString "since"), .str (Str.ofString "since") k1, .none⟩, ⟨PyData.keyHash w.params (Str.ofString "latest"), .str (Str.ofString "latest") k2, .int la q1⟩, ⟨PyData.keyHash w.params (Str.ofString "least"), .str (Str.ofString "least") k3, .int le q2⟩, ⟨PyData.keyHash w.params (Str.ofString "smoothed8"), .str (Str.ofString "smoothed8") k4, .int s8 q3⟩, ⟨PyData.keyHash w.params (Str.ofString "variance4"), .str (Str.ofString "variance4") k5, .int v4 q4⟩, ⟨PyData.keyHash w.params (Str.ofString "first_at"), .str (Str.ofString "first_at") k6, fv⟩] 6) { cls := .type "list", data := .seq #[.ref l, .int kb tb] e }, p ∈ all) ∧ own ∈ all ∧ (∀ y, y ≠ xT → m' y = m₀ y) ∧ (0 : Int) ≤ kb ∧ SampOk fv s8 v4
theorem sPost_next {L : Addr} {own : Addr × Obj} {s₁ : Shared} {h' : Heap} {tk : Nat} {m' : Str → Option Value} {all : List (Addr × Obj)} {la le s8 v4 kb : Int} {q1 q2 q3 q4 tb : Tok} {fv : Value} (F : Fr h₀ L h' m') (N : News h₀ L h' all) (h1 : ∀ p ∈ g2 (dictOf [⟨PyData.keyHash w.params (Str.ofString "since"), .str (Str.ofString "since") k1, .none⟩, ⟨PyData.keyHash w.params (Str.ofString "latest"), .str (Str.ofString "latest") k2, .int la q1⟩, ⟨PyData.keyHash w.params (Str.ofString "least"), .str (Str.ofString "least") k3, .int le q2⟩, ⟨PyData.keyHash w.params (Str.ofString "smoothed8"), .str (Str.ofString "smoothed8") k4, .int s8 q3⟩, ⟨PyData.keyHash w.params (Str.ofString "variance4"), .str (Str.ofString "variance4") k5, .int v4 q4⟩, ⟨PyData.keyHash w.params (Str.ofString "first_at"), .str (Str.ofString "first_at") k6, fv⟩] 6) { cls := .type "list", data := .seq #[.ref l, .int kb tb] e }, p ∈ all) (h2 : own ∈ all) (h3 : ∀ y, y ≠ xT → m' y = m₀ y) (h4 : (0 : Int) ≤ kb) (h5 : SampOk fv s8 v4) :
    SPost w h₀ L g2 k1 k2 k3 k4 k5 k6 l e m₀ own s₁ Q .next { s₁ with heap := h', toks := tk } := ⟨h', tk, m', all, la, le, s8, v4, q1, q2, q3, q4, fv, kb, tb, rfl, F, N, h1, h2, h3, h4, h5⟩
theorem samples_loop {r dw db : Addr} {b₀ la0 le0 s80 v40 kb0 : Int} {t₀ u₀ v₀ q01 q02 q03 q04 tb0 : Tok} {oW0 oB0 : Obj} {g1 : Obj → List (Addr × Obj)} {news : List (Addr × Obj)}
    (hh : A.handled = none) (hr : IsRange s.heap r 0 b₀ 1 t₀ u₀ v₀) (hb1 : 1 ≤ b₀) (hb3 : b₀ ≤ 3) (F : Fr h₀ env.locals s.heap m₀) (N : News h₀ env.locals s.heap news) (U1 : UpdF dw oW0 news g1) (U2 : ∀ o, UpdF db oB0 (g1 o) (g2 o))
    (eN : news = g2 (dictOf [⟨PyData.keyHash w.params (Str.ofString "since"), .str (Str.ofString "since") k1, .none⟩, ⟨PyData.keyHash w.params (Str.ofString "latest"), .str (Str.ofString "latest") k2, .int la0 q01⟩, ⟨PyData.keyHash w.params (Str.ofString "least"), .str (Str.ofString "least") k3, .int le0 q02⟩, ⟨PyData.keyHash w.params (Str.ofString "smoothed8"), .str (Str.ofString "smoothed8") k4, .int s80 q03⟩, ⟨PyData.keyHash w.params (Str.ofString "variance4"), .str (Str.ofString "variance4") k5, .int v40 q04⟩, ⟨PyData.keyHash w.params (Str.ofString "first_at"), .str (Str.ofString "first_at") k6, .none⟩] 6) { cls := .type "list", data := .seq #[.ref l, .int kb0 tb0] e }) (hk0 : 0 ≤ kb0)
    (turn0 : ∀ t h tk I oI, (∀ p ∈ news, p.1 < I) → Fr h₀ env.locals h (fun y => if y = xT then some (.int 0 t) else m₀ y) → News h₀ env.locals h ((I, oI) :: news) →
      wpAny (model PySem.Challenge.rw_sj0109_01.row.prog w) A (execs body env) (SPost w h₀ env.locals g2 k1 k2 k3 k4 k5 k6 l e m₀ (I, oI) { s with heap := h, toks := tk } Q) E { s with heap := h, toks := tk })
    (turn : ∀ (k1 k2 k3 k4 k5 k6 : Tok) (k : Int) t h tk I oI la le s8 v4 q1 q2 q3 q4 fa q5 kb tb, (∀ p ∈ g2 (dictOf [⟨PyData.keyHash w.params (Str.ofString "since"), .str (Str.ofString "since") k1, .none⟩, ⟨PyData.keyHash w.params (Str.ofString "latest"), .str (Str.ofString "latest") k2, .int la q1⟩, ⟨PyData.keyHash w.params (Str.ofString "least"), .str (Str.ofString "least") k3, .int le q2⟩, ⟨PyData.keyHash w.params (Str.ofString "smoothed8"), .str (Str.ofString "smoothed8") k4, .int s8 q3⟩, ⟨PyData.keyHash w.params (Str.ofString "variance4"), .str (Str.ofString "variance4") k5, .int v4 q4⟩, ⟨PyData.keyHash w.params (Str.ofString "first_at"), .str (Str.ofString "first_at") k6, .int fa q5⟩] 6) { cls := .type "list", data := .seq #[.ref l, .int kb tb] e }, p.1 < I) → (0 : Int) ≤ kb → SampOk (.int fa q5) s8 v4 →
      Fr h₀ env.locals h (fun y => if y = xT then some (.int k t) else m₀ y) → News h₀ env.locals h ((I, oI) :: g2 (dictOf [⟨PyData.keyHash w.params (Str.ofString "since"), .str (Str.ofString "since") k1, .none⟩, ⟨PyData.keyHash w.params (Str.ofString "latest"), .str (Str.ofString "latest") k2, .int la q1⟩, ⟨PyData.keyHash w.params (Str.ofString "least"), .str (Str.ofString "least") k3, .int le q2⟩, ⟨PyData.keyHash w.params (Str.ofString "smoothed8"), .str (Str.ofString "smoothed8") k4, .int s8 q3⟩, ⟨PyData.keyHash w.params (Str.ofString "variance4"), .str (Str.ofString "variance4") k5, .int v4 q4⟩, ⟨PyData.keyHash w.params (Str.ofString "first_at"), .str (Str.ofString "first_at") k6, .int fa q5⟩] 6) { cls := .type "list", data := .seq #[.ref l, .int kb tb] e }) →
      wpAny (model PySem.Challenge.rw_sj0109_01.row.prog w) A (execs body env) (SPost w h₀ env.locals g2 k1 k2 k3 k4 k5 k6 l e m₀ (I, oI) { s with heap := h, toks := tk } Q) E { s with heap := h, toks := tk })
    (done : ∀ (k1 k2 k3 k4 k5 k6 : Tok) u h tk la le s8 v4 q1 q2 q3 q4 fa q5 kb tb, (0 : Int) ≤ kb → SampOk (.int fa q5) s8 v4 → Fr h₀ env.locals h (fun y => if y = xT then u else m₀ y) → News h₀ env.locals h (g2 (dictOf [⟨PyData.keyHash w.params (Str.ofString "since"), .str (Str.ofString "since") k1, .none⟩, ⟨PyData.keyHash w.params (Str.ofString "latest"), .str (Str.ofString "latest") k2, .int la q1⟩, ⟨PyData.keyHash w.params (Str.ofString "least"), .str (Str.ofString "least") k3, .int le q2⟩, ⟨PyData.keyHash w.params (Str.ofString "smoothed8"), .str (Str.ofString "smoothed8") k4, .int s8 q3⟩, ⟨PyData.keyHash w.params (Str.ofString "variance4"), .str (Str.ofString "variance4") k5, .int v4 q4⟩, ⟨PyData.keyHash w.params (Str.ofString "first_at"), .str (Str.ofString "first_at") k6, .int fa q5⟩] 6) { cls := .type "list", data := .seq #[.ref l, .int kb tb] e }) → Q .next { s with heap := h, toks := tk }) :
    wpAny (model PySem.Challenge.rw_sj0109_01.row.prog w) A (pyIter (.ref r)) (fun it s₂ => LoopAtV PySem.Challenge.rw_sj0109_01.row.prog w A h₀ env xT body Q E it s₂) E s := by
  have form : ∀ (m : Str → Option Value) (v : Option Value), (∀ y, y ≠ xT → m y = m₀ y) → (fun y => if y = xT then v else m y) = fun y => if y = xT then v else m₀ y := fun m v h => by
    funext y
    by_cases q : y = xT
    · rw [if_pos q, if_pos q]
    · rw [if_neg q, if_neg q]; exact h y q
  have form' : ∀ m : Str → Option Value, (∀ y, y ≠ xT → m y = m₀ y) → m = fun y => if y = xT then m xT else m₀ y := fun m h => by
    funext y
    by_cases q : y = xT
    · rw [if_pos q, q]
    · rw [if_neg q]; exact h y q
  have adr : ∀ o o', (g2 o o').map (·.1) = news.map (·.1) := fun o o' => (UpdF.addr (U2 o) o').trans (UpdF.addr U1 o)
  let J : Nat → (Str → Option Value) → List (Addr × Obj) → Prop := fun i m nx => (∀ y, y ≠ xT → m y = m₀ y) ∧ ((i = 0 ∧ nx = news) ∨ (0 < i ∧ ∃ la le s8 v4 q1 q2 q3 q4 fa q5 kb tb, nx = g2 (dictOf [⟨PyData.keyHash w.params (Str.ofString "since"), .str (Str.ofString "since") k1, .none⟩, ⟨PyData.keyHash w.params (Str.ofString "latest"), .str (Str.ofString "latest") k2, .int la q1⟩, ⟨PyData.keyHash w.params (Str.ofString "least"), .str (Str.ofString "least") k3, .int le q2⟩, ⟨PyData.keyHash w.params (Str.ofString "smoothed8"), .str (Str.ofString "smoothed8") k4, .int s8 q3⟩, ⟨PyData.keyHash w.params (Str.ofString "variance4"), .str (Str.ofString "variance4") k5, .int v4 q4⟩, ⟨PyData.keyHash w.params (Str.ofString "first_at"), .str (Str.ofString "first_at") k6, .int fa q5⟩] 6) { cls := .type "list", data := .seq #[.ref l, .int kb tb] e } ∧ (0 : Int) ≤ kb ∧ SampOk (.int fa q5) s8 v4))
  refine iter_range1 (n := b₀.toNat) J hh hr (by omega) (by omega) F N ⟨fun _ _ => rfl, .inl ⟨rfl, rfl⟩⟩ ?_ ?_
  · intro i t m₁ nx h tk I oI hin hadr hlt hJ F₁ N₁
    obtain ⟨hm, hJ⟩ := hJ
    rw [form m₁ _ hm] at F₁
    have key : ∀ f s₂, SPost w h₀ env.locals g2 k1 k2 k3 k4 k5 k6 l e m₀ (I, oI) { s with heap := h, toks := tk } Q f s₂ → Post1 h₀ env.locals (J (i + 1)) (I, oI) (news.map (·.1)) { s with heap := h, toks := tk } Q f s₂ := by
      intro f s₂ hs
      have fin : (∃ h' tk' m' all la le s8 v4 q1 q2 q3 q4 fv kb tb, s₂ = { ({ s with heap := h, toks := tk } : Shared) with heap := h', toks := tk' } ∧ Fr h₀ env.locals h' m' ∧ News h₀ env.locals h' all ∧ (∀ p ∈ g2 (dictOf [⟨PyData.keyHash w.params (Str.ofString "since"), .str (Str.ofString "since") k1, .none⟩, ⟨PyData.keyHash w.params (Str.ofString "latest"), .str (Str.ofString "latest") k2, .int la q1⟩, ⟨PyData.keyHash w.params (Str.ofString "least"), .str (Str.ofString "least") k3, .int le q2⟩, ⟨PyData.keyHash w.params (Str.ofString "smoothed8"), .str (Str.ofString "smoothed8") k4, .int s8 q3⟩, ⟨PyData.keyHash w.params (Str.ofString "variance4"), .str (Str.ofString "variance4") k5, .int v4 q4⟩, ⟨PyData.keyHash w.params (Str.ofString "first_at"), .str (Str.ofString "first_at") k6, fv⟩] 6) { cls := .type "list", data := .seq #[.ref l, .int kb tb] e }, p ∈ all) ∧ (I, oI) ∈ all ∧ (∀ y, y ≠ xT → m' y = m₀ y) ∧ (0 : Int) ≤ kb ∧ SampOk fv s8 v4) →
          ∃ h' tk' m' news' nx', s₂ = { ({ s with heap := h, toks := tk } : Shared) with heap := h', toks := tk' } ∧ Fr h₀ env.locals h' m' ∧ News h₀ env.locals h' news' ∧ (∀ p ∈ nx', p ∈ news') ∧ (I, oI) ∈ news' ∧ nx'.map (·.1) = news.map (·.1) ∧ J (i + 1) m' nx' := by
        rintro ⟨h', tk', m', all, la, le, s8, v4, q1, q2, q3, q4, fv, kb, tb, es, F', N', a1, a2, a3, a4, a5⟩
        obtain ⟨fa, q5, rfl, a5'⟩ := id a5
        exact ⟨h', tk', m', all, _, es, F', N', a1, a2, adr _ _, a3, .inr ⟨Nat.succ_pos i, la, le, s8, v4, q1, q2, q3, q4, fa, q5, kb, tb, rfl, a4, a5⟩⟩
      cases f with
      | ret v => exact hs
      | brk => exact hs
      | next => exact fin hs
      | cont => exact fin hs
    rcases hJ with ⟨hi, rfl⟩ | ⟨_, la, le, s8, v4, q1, q2, q3, q4, fa, q5, kb, tb, rfl, hk, hs⟩
    · subst hi
      exact wpAny_mono (turn0 t h tk I oI hlt F₁ N₁) key fun _ _ e => e
    · exact wpAny_mono (turn k1 k2 k3 k4 k5 k6 (i : Int) t h tk I oI la le s8 v4 q1 q2 q3 q4 fa q5 kb tb hlt hk hs F₁ N₁) key fun _ _ e => e
  · rintro m₁ nx h tk ⟨hm, hJ⟩ F₁ N₁
    rw [form' m₁ hm] at F₁
    rcases hJ with ⟨hi, _⟩ | ⟨_, la, le, s8, v4, q1, q2, q3, q4, fa, q5, kb, tb, rfl, hk, hs⟩
    · omega
    · exact done k1 k2 k3 k4 k5 k6 _ h tk la le s8 v4 q1 q2 q3 q4 fa q5 kb tb hk hs F₁ N₁
end
theorem news_drop3 {h₀ h : Heap} {L : Addr} {a b c : Addr × Obj} {r : List (Addr × Obj)} (N : News h₀ L h (a :: b :: c :: r)) : News h₀ L h r := fun p hp => N p (.tail _ (.tail _ (.tail _ hp)))
end Mine
end
section
open PySem PySem.W PyProof.Rows
set_option maxRecDepth 100000
set_option maxHeartbeats 1000000
namespace Mine
open PySem.Spec PySem.Calls
theorem m_fold {m m₀ : Str → Option Value} : ∀ {xs : List Str}, (∀ y, y ∉ xs → m y = m₀ y) → m = xs.foldr (fun x f => fun y => if y = x then m x else f y) m₀
  | [], h => funext fun y => h y (by simp)
  | x :: r, h => by
    funext y
    show m y = if y = x then m x else (r.foldr (fun x f => fun y => if y = x then m x else f y) m₀) y
    by_cases q : y = x
    · rw [if_pos q, q]
    · rw [if_neg q]
      by_cases z : y ∈ r
      · have : ∀ (l : List Str), y ∈ l → (l.foldr (fun x f => fun y => if y = x then m x else f y) m₀) y = m y := by
          intro l
          induction l with
          | nil => intro h; cases h
          | cons a t ih =>
            intro h
            show (if y = a then m a else (t.foldr (fun x f => fun y => if y = x then m x else f y) m₀) y) = m y
            by_cases e : y = a
            · rw [if_pos e, e]
            · rw [if_neg e]; exact ih ((List.mem_cons.mp h).resolve_left e)
        exact (this r z).symm
      · have : ∀ (l : List Str), y ∉ l → (l.foldr (fun x f => fun y => if y = x then m x else f y) m₀) y = m₀ y := by
          intro l
          induction l with
          | nil => intro _; rfl
          | cons a t ih =>
            intro h
            show (if y = a then m a else (t.foldr (fun x f => fun y => if y = x then m x else f y) m₀) y) = m₀ y
            rw [if_neg (fun e => h (by rw [e]; exact .head _))]
            exact ih fun hh => h (.tail _ hh)
        rw [this r z]
        exact h y (by simp [q, z])
section
variable {w : World} {A : Around} {E : Value → Shared → Prop} {s : Shared} {env : Env} {h₀ : Heap} {body : List Stmt} {Q : Flow → Shared → Prop} {g4 : Obj → Obj → Obj → Obj → List (Addr × Obj)} {ow pe : Int} {j1 j2 j3 j4 p1 p2 k1 k2 k3 k4 k5 k6 : Tok} {l : Addr} {e : Nat} {m₀ : Str → Option Value}
def BPost (w : World) (i : Nat) (b₀ : Int) (h₀ : Heap) (L : Addr) (g4 : Obj → Obj → Obj → Obj → List (Addr × Obj)) (ow pe : Int) (j1 j2 j3 j4 p1 p2 k1 k2 k3 k4 k5 k6 : Tok) (l : Addr) (e : Nat) (m₀ : Str → Option Value) (own : Addr × Obj) (s₁ : Shared) (Q : Flow → Shared → Prop) (f : Flow) (s₂ : Shared) : Prop :=
  match f with
  | .ret v => Q (.ret v) s₂
  | .brk => Q .next s₂
  | _ => ∃ (h' : Heap) (tk : Nat) (m' : Str → Option Value) (all : List (Addr × Obj)) (nw : Int) (tn : Tok) (sv : Value) (la le s8 v4 : Int) (q1 q2 q3 q4 : Tok) (fa : Int) (q5 : Tok) (kb : Int) (tb : Tok) (oC : Obj) (v0 : Option Value) (ha : Bool), s₂ = { s₁ with heap := h', toks := tk } ∧ Fr h₀ L h' m' ∧ News h₀ L h' all ∧ (∀ p ∈ g4 (dictOf [⟨PyData.keyHash w.params (Str.ofString "own"), .str (Str.ofString "own") j1, .int ow p1⟩, ⟨PyData.keyHash w.params (Str.ofString "peer"), .str (Str.ofString "peer") j2, .int pe p2⟩, ⟨PyData.keyHash w.params (Str.ofString "since"), .str (Str.ofString "since") j3, sv⟩, ⟨PyData.keyHash w.params (Str.ofString "has_asked"), .str (Str.ofString "has_asked") j4, .bool ha⟩] 4) (dictOf [⟨PyData.keyHash w.params (Str.ofString "since"), .str (Str.ofString "since") k1, .none⟩, ⟨PyData.keyHash w.params (Str.ofString "latest"), .str (Str.ofString "latest") k2, .int la q1⟩, ⟨PyData.keyHash w.params (Str.ofString "least"), .str (Str.ofString "least") k3, .int le q2⟩, ⟨PyData.keyHash w.params (Str.ofString "smoothed8"), .str (Str.ofString "smoothed8") k4, .int s8 q3⟩, ⟨PyData.keyHash w.params (Str.ofString "variance4"), .str (Str.ofString "variance4") k5, .int v4 q4⟩, ⟨PyData.keyHash w.params (Str.ofString "first_at"), .str (Str.ofString "first_at") k6, .int fa q5⟩] 6) { cls := .type "list", data := .seq #[.ref l, .int kb tb] e } oC, p ∈ all) ∧ own ∈ all ∧ (∀ y, y ≠ (Str.ofString "bout") → y ≠ (Str.ofString "asked") → y ≠ (Str.ofString "stop") → y ≠ (Str.ofString "told") → y ≠ (Str.ofString "wait") → y ≠ (Str.ofString "end") → y ≠ (Str.ofString "latest") → y ≠ (Str.ofString "now") → m' y = m₀ y) ∧ m' (Str.ofString "now") = some (.int nw tn) ∧ (0 : Int) ≤ kb ∧ SampOk (.int fa q5) s8 v4 ∧ oC.data = .cell v0 ∧ ((i : Int) + 1 < b₀ → ha = false)
theorem bPost_next {i : Nat} {b₀ : Int} {ha : Bool} {L : Addr} {own : Addr × Obj} {s₁ : Shared} {h' : Heap} {tk : Nat} {m' : Str → Option Value} {all : List (Addr × Obj)} {nw : Int} {tn : Tok} {sv : Value} {la le s8 v4 : Int} {q1 q2 q3 q4 : Tok} {fa : Int} {q5 : Tok} {kb : Int} {tb : Tok} {oC : Obj} {v0 : Option Value}
    (F : Fr h₀ L h' m') (N : News h₀ L h' all) (h1 : ∀ p ∈ g4 (dictOf [⟨PyData.keyHash w.params (Str.ofString "own"), .str (Str.ofString "own") j1, .int ow p1⟩, ⟨PyData.keyHash w.params (Str.ofString "peer"), .str (Str.ofString "peer") j2, .int pe p2⟩, ⟨PyData.keyHash w.params (Str.ofString "since"), .str (Str.ofString "since") j3, sv⟩, ⟨PyData.keyHash w.params (Str.ofString "has_asked"), .str (Str.ofString "has_asked") j4, .bool ha⟩] 4) (dictOf [⟨PyData.keyHash w.params (Str.ofString "since"), .str (Str.ofString "since") k1, .none⟩, ⟨PyData.keyHash w.params (Str.ofString "latest"), .str (Str.ofString "latest") k2, .int la q1⟩, ⟨PyData.keyHash w.params (Str.ofString "least"), .str (Str.ofString "least") k3, .int le q2⟩, ⟨PyData.keyHash w.params (Str.ofString "smoothed8"), .str (Str.ofString "smoothed8") k4, .int s8 q3⟩, ⟨PyData.keyHash w.params (Str.ofString "variance4"), .str (Str.ofString "variance4") k5, .int v4 q4⟩, ⟨PyData.keyHash w.params (Str.ofString "first_at"), .str (Str.ofString "first_at") k6, .int fa q5⟩] 6) { cls := .type "list", data := .seq #[.ref l, .int kb tb] e } oC, p ∈ all) (h2 : own ∈ all) (h3 : ∀ y, y ≠ (Str.ofString "bout") → y ≠ (Str.ofString "asked") → y ≠ (Str.ofString "stop") → y ≠ (Str.ofString "told") → y ≠ (Str.ofString "wait") → y ≠ (Str.ofString "end") → y ≠ (Str.ofString "latest") → y ≠ (Str.ofString "now") → m' y = m₀ y) (h4 : m' (Str.ofString "now") = some (.int nw tn)) (h5 : (0 : Int) ≤ kb) (h6 : SampOk (.int fa q5) s8 v4) (h7 : oC.data = .cell v0) (h8 : (i : Int) + 1 < b₀ → ha = false) :
    BPost w i b₀ h₀ L g4 ow pe j1 j2 j3 j4 p1 p2 k1 k2 k3 k4 k5 k6 l e m₀ own s₁ Q .next { s₁ with heap := h', toks := tk } :=
  ⟨h', tk, m', all, nw, tn, sv, la, le, s8, v4, q1, q2, q3, q4, fa, q5, kb, tb, oC, v0, ha, rfl, F, N, h1, h2, h3, h4, h5, h6, h7, h8⟩
theorem bouts_loop {r d1 d2 d3 d4 : Addr} {b₀ : Int} {t₀ u₀ v₀ : Tok} {oI0 oW0 oB0 oC0 : Obj} {g1 : Obj → List (Addr × Obj)} {g2 : Obj → Obj → List (Addr × Obj)} {g3 : Obj → Obj → Obj → List (Addr × Obj)} {news : List (Addr × Obj)}
    {nw0 : Int} {tn0 : Tok} {sv0 : Value} {la0 le0 s80 v40 : Int} {q01 q02 q03 q04 : Tok} {fa0 : Int} {q05 : Tok} {kb0 : Int} {tb0 : Tok} {v00 : Option Value}
    (hh : A.handled = none) (hr : IsRange s.heap r 0 b₀ 1 t₀ u₀ v₀) (hb1 : 1 ≤ b₀) (hb3 : b₀ ≤ 3) (F : Fr h₀ env.locals s.heap m₀) (N : News h₀ env.locals s.heap news)
    (U1 : UpdF d1 oI0 news g1) (U2 : ∀ a, UpdF d2 oW0 (g1 a) (g2 a)) (U3 : ∀ a b, UpdF d3 oB0 (g2 a b) (g3 a b)) (U4 : ∀ a b c, UpdF d4 oC0 (g3 a b c) (g4 a b c))
    (eN : news = g4 (dictOf [⟨PyData.keyHash w.params (Str.ofString "own"), .str (Str.ofString "own") j1, .int ow p1⟩, ⟨PyData.keyHash w.params (Str.ofString "peer"), .str (Str.ofString "peer") j2, .int pe p2⟩, ⟨PyData.keyHash w.params (Str.ofString "since"), .str (Str.ofString "since") j3, sv0⟩, ⟨PyData.keyHash w.params (Str.ofString "has_asked"), .str (Str.ofString "has_asked") j4, .bool false⟩] 4) (dictOf [⟨PyData.keyHash w.params (Str.ofString "since"), .str (Str.ofString "since") k1, .none⟩, ⟨PyData.keyHash w.params (Str.ofString "latest"), .str (Str.ofString "latest") k2, .int la0 q01⟩, ⟨PyData.keyHash w.params (Str.ofString "least"), .str (Str.ofString "least") k3, .int le0 q02⟩, ⟨PyData.keyHash w.params (Str.ofString "smoothed8"), .str (Str.ofString "smoothed8") k4, .int s80 q03⟩, ⟨PyData.keyHash w.params (Str.ofString "variance4"), .str (Str.ofString "variance4") k5, .int v40 q04⟩, ⟨PyData.keyHash w.params (Str.ofString "first_at"), .str (Str.ofString "first_at") k6, .int fa0 q05⟩] 6) { cls := .type "list", data := .seq #[.ref l, .int kb0 tb0] e } oC0) (hk0 : (0 : Int) ≤ kb0) (hs0 : SampOk (.int fa0 q05) s80 v40) (hc0 : oC0.data = .cell v00) (hn0 : m₀ (Str.ofString "now") = some (.int nw0 tn0))
    (turn : ∀ (j1 j2 j3 j4 : Tok) (i : Nat) t h tk I oI (ua us ut uw ue ul : Option Value) (nw : Int) (tn : Tok) (sv : Value) (la le s8 v4 : Int) (q1 q2 q3 q4 : Tok) (fa : Int) (q5 : Tok) (kb : Int) (tb : Tok) (oC : Obj) (v0 : Option Value), (i : Int) < b₀ → (∀ p ∈ g4 (dictOf [⟨PyData.keyHash w.params (Str.ofString "own"), .str (Str.ofString "own") j1, .int ow p1⟩, ⟨PyData.keyHash w.params (Str.ofString "peer"), .str (Str.ofString "peer") j2, .int pe p2⟩, ⟨PyData.keyHash w.params (Str.ofString "since"), .str (Str.ofString "since") j3, sv⟩, ⟨PyData.keyHash w.params (Str.ofString "has_asked"), .str (Str.ofString "has_asked") j4, .bool false⟩] 4) (dictOf [⟨PyData.keyHash w.params (Str.ofString "since"), .str (Str.ofString "since") k1, .none⟩, ⟨PyData.keyHash w.params (Str.ofString "latest"), .str (Str.ofString "latest") k2, .int la q1⟩, ⟨PyData.keyHash w.params (Str.ofString "least"), .str (Str.ofString "least") k3, .int le q2⟩, ⟨PyData.keyHash w.params (Str.ofString "smoothed8"), .str (Str.ofString "smoothed8") k4, .int s8 q3⟩, ⟨PyData.keyHash w.params (Str.ofString "variance4"), .str (Str.ofString "variance4") k5, .int v4 q4⟩, ⟨PyData.keyHash w.params (Str.ofString "first_at"), .str (Str.ofString "first_at") k6, .int fa q5⟩] 6) { cls := .type "list", data := .seq #[.ref l, .int kb tb] e } oC, p.1 < I) → (0 : Int) ≤ kb → SampOk (.int fa q5) s8 v4 → oC.data = .cell v0 →
      Fr h₀ env.locals h (fun y => if y = (Str.ofString "bout") then some (.int (i : Int) t) else if y = (Str.ofString "asked") then ua else if y = (Str.ofString "stop") then us else if y = (Str.ofString "told") then ut else if y = (Str.ofString "wait") then uw else if y = (Str.ofString "end") then ue else if y = (Str.ofString "latest") then ul else if y = (Str.ofString "now") then some (.int nw tn) else m₀ y) → News h₀ env.locals h ((I, oI) :: g4 (dictOf [⟨PyData.keyHash w.params (Str.ofString "own"), .str (Str.ofString "own") j1, .int ow p1⟩, ⟨PyData.keyHash w.params (Str.ofString "peer"), .str (Str.ofString "peer") j2, .int pe p2⟩, ⟨PyData.keyHash w.params (Str.ofString "since"), .str (Str.ofString "since") j3, sv⟩, ⟨PyData.keyHash w.params (Str.ofString "has_asked"), .str (Str.ofString "has_asked") j4, .bool false⟩] 4) (dictOf [⟨PyData.keyHash w.params (Str.ofString "since"), .str (Str.ofString "since") k1, .none⟩, ⟨PyData.keyHash w.params (Str.ofString "latest"), .str (Str.ofString "latest") k2, .int la q1⟩, ⟨PyData.keyHash w.params (Str.ofString "least"), .str (Str.ofString "least") k3, .int le q2⟩, ⟨PyData.keyHash w.params (Str.ofString "smoothed8"), .str (Str.ofString "smoothed8") k4, .int s8 q3⟩, ⟨PyData.keyHash w.params (Str.ofString "variance4"), .str (Str.ofString "variance4") k5, .int v4 q4⟩, ⟨PyData.keyHash w.params (Str.ofString "first_at"), .str (Str.ofString "first_at") k6, .int fa q5⟩] 6) { cls := .type "list", data := .seq #[.ref l, .int kb tb] e } oC) →
      wpAny (model PySem.Challenge.rw_sj0109_01.row.prog w) A (execs body env) (BPost w i b₀ h₀ env.locals g4 ow pe j1 j2 j3 j4 p1 p2 k1 k2 k3 k4 k5 k6 l e m₀ (I, oI) { s with heap := h, toks := tk } Q) E { s with heap := h, toks := tk })
    (done : ∀ m h tk nx, Fr h₀ env.locals h m → News h₀ env.locals h nx → Q .next { s with heap := h, toks := tk }) :
    wpAny (model PySem.Challenge.rw_sj0109_01.row.prog w) A (pyIter (.ref r)) (fun it s₂ => LoopAtV PySem.Challenge.rw_sj0109_01.row.prog w A h₀ env (Str.ofString "bout") body Q E it s₂) E s := by
  have adr : ∀ a b c d, (g4 a b c d).map (·.1) = news.map (·.1) := fun a b c d => (UpdF.addr (U4 a b c) d).trans ((UpdF.addr (U3 a b) c).trans ((UpdF.addr (U2 a) b).trans (UpdF.addr U1 a)))
  let J : Nat → (Str → Option Value) → List (Addr × Obj) → Prop := fun i m nx => (∀ y, y ≠ (Str.ofString "bout") → y ≠ (Str.ofString "asked") → y ≠ (Str.ofString "stop") → y ≠ (Str.ofString "told") → y ≠ (Str.ofString "wait") → y ≠ (Str.ofString "end") → y ≠ (Str.ofString "latest") → y ≠ (Str.ofString "now") → m y = m₀ y) ∧ ∃ (nw : Int) (tn : Tok) (sv : Value) (la le s8 v4 : Int) (q1 q2 q3 q4 : Tok) (fa : Int) (q5 : Tok) (kb : Int) (tb : Tok) (oC : Obj) (v0 : Option Value) (ha : Bool), m (Str.ofString "now") = some (.int nw tn) ∧ nx = g4 (dictOf [⟨PyData.keyHash w.params (Str.ofString "own"), .str (Str.ofString "own") j1, .int ow p1⟩, ⟨PyData.keyHash w.params (Str.ofString "peer"), .str (Str.ofString "peer") j2, .int pe p2⟩, ⟨PyData.keyHash w.params (Str.ofString "since"), .str (Str.ofString "since") j3, sv⟩, ⟨PyData.keyHash w.params (Str.ofString "has_asked"), .str (Str.ofString "has_asked") j4, .bool ha⟩] 4) (dictOf [⟨PyData.keyHash w.params (Str.ofString "since"), .str (Str.ofString "since") k1, .none⟩, ⟨PyData.keyHash w.params (Str.ofString "latest"), .str (Str.ofString "latest") k2, .int la q1⟩, ⟨PyData.keyHash w.params (Str.ofString "least"), .str (Str.ofString "least") k3, .int le q2⟩, ⟨PyData.keyHash w.params (Str.ofString "smoothed8"), .str (Str.ofString "smoothed8") k4, .int s8 q3⟩, ⟨PyData.keyHash w.params (Str.ofString "variance4"), .str (Str.ofString "variance4") k5, .int v4 q4⟩, ⟨PyData.keyHash w.params (Str.ofString "first_at"), .str (Str.ofString "first_at") k6, .int fa q5⟩] 6) { cls := .type "list", data := .seq #[.ref l, .int kb tb] e } oC ∧ (0 : Int) ≤ kb ∧ SampOk (.int fa q5) s8 v4 ∧ oC.data = .cell v0 ∧ ((i : Int) < b₀ → ha = false)
  refine iter_range1 (n := b₀.toNat) J hh hr (by omega) (by omega) F N ⟨fun _ _ _ _ _ _ _ _ _ => rfl, nw0, tn0, sv0, la0, le0, s80, v40, q01, q02, q03, q04, fa0, q05, kb0, tb0, oC0, v00, false, hn0, eN, hk0, hs0, hc0, fun _ => rfl⟩ ?_ ?_
  · intro i t m₁ nx h tk I oI hin hadr hlt hJ F₁ N₁
    obtain ⟨hm, nw, tn, sv, la, le, s8, v4, q1, q2, q3, q4, fa, q5, kb, tb, oC, v0, ha, hn, rfl, hk, hs, hc, hha⟩ := hJ
    obtain rfl : ha = false := hha (by omega)
    have e1 : (fun y => if y = (Str.ofString "bout") then some (Value.int (i : Int) t) else m₁ y) = fun y => if y = (Str.ofString "bout") then some (.int (i : Int) t) else if y = (Str.ofString "asked") then m₁ (Str.ofString "asked") else if y = (Str.ofString "stop") then m₁ (Str.ofString "stop") else if y = (Str.ofString "told") then m₁ (Str.ofString "told") else if y = (Str.ofString "wait") then m₁ (Str.ofString "wait") else if y = (Str.ofString "end") then m₁ (Str.ofString "end") else if y = (Str.ofString "latest") then m₁ (Str.ofString "latest") else if y = (Str.ofString "now") then some (.int nw tn) else m₀ y := by
      have e2 := m_fold (m := fun y => if y = (Str.ofString "bout") then some (Value.int (i : Int) t) else m₁ y) (m₀ := m₀) (xs := [(Str.ofString "bout"), (Str.ofString "asked"), (Str.ofString "stop"), (Str.ofString "told"), (Str.ofString "wait"), (Str.ofString "end"), (Str.ofString "latest"), (Str.ofString "now")]) (fun y hy => by
        simp only [List.mem_cons, List.not_mem_nil, or_false, not_or] at hy
        obtain ⟨n0, n1, n2, n3, n4, n5, n6, n7⟩ := hy
        show (if y = (Str.ofString "bout") then some (Value.int (i : Int) t) else m₁ y) = m₀ y
        rw [if_neg n0]
        exact hm y n0 n1 n2 n3 n4 n5 n6 n7)
      rw [e2]
      simp only [List.foldr, if_true, if_false, hn, show ((Str.ofString "asked") = (Str.ofString "bout")) = False from eq_false (by decide), show ((Str.ofString "stop") = (Str.ofString "bout")) = False from eq_false (by decide), show ((Str.ofString "told") = (Str.ofString "bout")) = False from eq_false (by decide), show ((Str.ofString "wait") = (Str.ofString "bout")) = False from eq_false (by decide), show ((Str.ofString "end") = (Str.ofString "bout")) = False from eq_false (by decide), show ((Str.ofString "latest") = (Str.ofString "bout")) = False from eq_false (by decide), show ((Str.ofString "now") = (Str.ofString "bout")) = False from eq_false (by decide)]
    rw [e1] at F₁
    refine wpAny_mono (turn j1 j2 j3 j4 i t h tk I oI _ _ _ _ _ _ nw tn sv la le s8 v4 q1 q2 q3 q4 fa q5 kb tb oC v0 (by omega) hlt hk hs hc F₁ N₁) (fun f s₂ hp => ?_) fun _ _ e => e
    have fin : (∃ (h' : Heap) (tk' : Nat) (m' : Str → Option Value) (all : List (Addr × Obj)) (nw : Int) (tn : Tok) (sv : Value) (la le s8 v4 : Int) (q1 q2 q3 q4 : Tok) (fa : Int) (q5 : Tok) (kb : Int) (tb : Tok) (oC : Obj) (v0 : Option Value) (ha : Bool), s₂ = { ({ s with heap := h, toks := tk } : Shared) with heap := h', toks := tk' } ∧ Fr h₀ env.locals h' m' ∧ News h₀ env.locals h' all ∧ (∀ p ∈ g4 (dictOf [⟨PyData.keyHash w.params (Str.ofString "own"), .str (Str.ofString "own") j1, .int ow p1⟩, ⟨PyData.keyHash w.params (Str.ofString "peer"), .str (Str.ofString "peer") j2, .int pe p2⟩, ⟨PyData.keyHash w.params (Str.ofString "since"), .str (Str.ofString "since") j3, sv⟩, ⟨PyData.keyHash w.params (Str.ofString "has_asked"), .str (Str.ofString "has_asked") j4, .bool ha⟩] 4) (dictOf [⟨PyData.keyHash w.params (Str.ofString "since"), .str (Str.ofString "since") k1, .none⟩, ⟨PyData.keyHash w.params (Str.ofString "latest"), .str (Str.ofString "latest") k2, .int la q1⟩, ⟨PyData.keyHash w.params (Str.ofString "least"), .str (Str.ofString "least") k3, .int le q2⟩, ⟨PyData.keyHash w.params (Str.ofString "smoothed8"), .str (Str.ofString "smoothed8") k4, .int s8 q3⟩, ⟨PyData.keyHash w.params (Str.ofString "variance4"), .str (Str.ofString "variance4") k5, .int v4 q4⟩, ⟨PyData.keyHash w.params (Str.ofString "first_at"), .str (Str.ofString "first_at") k6, .int fa q5⟩] 6) { cls := .type "list", data := .seq #[.ref l, .int kb tb] e } oC, p ∈ all) ∧ (I, oI) ∈ all ∧ (∀ y, y ≠ (Str.ofString "bout") → y ≠ (Str.ofString "asked") → y ≠ (Str.ofString "stop") → y ≠ (Str.ofString "told") → y ≠ (Str.ofString "wait") → y ≠ (Str.ofString "end") → y ≠ (Str.ofString "latest") → y ≠ (Str.ofString "now") → m' y = m₀ y) ∧ m' (Str.ofString "now") = some (.int nw tn) ∧ (0 : Int) ≤ kb ∧ SampOk (.int fa q5) s8 v4 ∧ oC.data = .cell v0 ∧ ((i : Int) + 1 < b₀ → ha = false)) →
        ∃ h' tk' m' news' nx', s₂ = { ({ s with heap := h, toks := tk } : Shared) with heap := h', toks := tk' } ∧ Fr h₀ env.locals h' m' ∧ News h₀ env.locals h' news' ∧ (∀ p ∈ nx', p ∈ news') ∧ (I, oI) ∈ news' ∧ nx'.map (·.1) = news.map (·.1) ∧ J (i + 1) m' nx' := by
      rintro ⟨h', tk', m', all, nw, tn, sv, la, le, s8, v4, q1, q2, q3, q4, fa, q5, kb, tb, oC, v0, ha, es, F', N', a1, a2, a3, a4, a5, a6, a7, a8⟩
      exact ⟨h', tk', m', all, _, es, F', N', a1, a2, adr _ _ _ _, a3, nw, tn, sv, la, le, s8, v4, q1, q2, q3, q4, fa, q5, kb, tb, oC, v0, ha, a4, rfl, a5, a6, a7, fun hlt => a8 (by omega)⟩
    cases f with
    | ret v => exact hp
    | brk => exact hp
    | next => exact fin hp
    | cont => exact fin hp
  · intro m₁ nx h tk _ F₁ N₁
    exact done m₁ h tk nx F₁ N₁
end
theorem news_drop1 {h₀ h : Heap} {L : Addr} {a : Addr × Obj} {r : List (Addr × Obj)} (N : News h₀ L h (a :: r)) : News h₀ L h r := fun p hp => N p (.tail _ hp)
end Mine
end
section
open PySem PySem.W PyProof.Rows
set_option maxRecDepth 100000
set_option maxHeartbeats 1000000
namespace Mine
open PySem.Spec PySem.Calls
theorem base_of {r : Value} {t : Tok} {fv : Value} {s8 v4 : Int} (h : SampOk fv s8 v4) (e : r = .int (s8 / 8 + max v4 1000) t) : ∃ b : Int, r = .int b t ∧ 0 < b ∧ b < 2 ^ 20 := by
  obtain ⟨_, _, _, a1, a2, a3, a4⟩ := h
  exact ⟨_, e, by omega, by omega⟩
theorem waitOf_comm (a b c : Int) : waitOf a b c = waitOf b a c := by
  unfold waitOf
  (repeat' split) <;> first | rfl | omega | (refine congrArg some ?_; omega)
theorem c_spaced (w : World) (d tl : Addr) (o : Obj) (e : Nat) (l0 : Ask) (b dl now ow pe : Int) (stop : Nat) (TT : List TE) (t1 t2 : Tok) (hd : o.IsDictOf (strKind PySem.Challenge.rw_sj0109_01.row.prog w) (kv l0)) (lo : (d == sysModules) = false)
    (ok : AskOk l0 now b) (hb : 0 < b) (hb' : b < 2 ^ 20) (hl : 0 ≤ dl) (hl' : dl < 2 ^ 20) (hst : stop ≤ 9) (T9 : ToldOk l0 b dl ow pe stop (TT.map teVal)) :
    Ctr w 12 220 [.ref d, .ref tl, .int b t1, .int dl t2] [] ((d, o) :: (tl, toldObj TT e) :: TT.map teObj) (fun r _ new => new = [] ∧ r = .bool true) := by
  obtain ⟨l, I⟩ := T9.inv
  have h9 : TT.length ≤ 9 := by have := T9.len; rw [List.length_map] at this; omega
  by_cases q : (l0.length : Int) = 1
  · match l0, q with
    | [(x, a1, u1)], _ => exact c_spaced_1 w d tl o e _ l b dl now TT t1 t2 hd lo ok hb hb' hl hl' h9 I x a1 u1 rfl
  · exact c_spaced_m w d tl o e l0 l b dl now TT t1 t2 hd lo ok hb hb' hl hl' h9 I q
theorem c_ends_n (w : World) (d tl : Addr) (o : Obj) (e : Nat) (l0 : Ask) (b dl now ow pe : Int) (stop : Nat) (TT : List TE) (t1 t2 t3 : Tok) (hd : o.IsDictOf (strKind PySem.Challenge.rw_sj0109_01.row.prog w) (kv l0)) (lo : (d == sysModules) = false)
    (ok : AskOk l0 now b) (hb : 0 < b) (hb' : b < 2 ^ 20) (hl : 0 ≤ dl) (hl' : dl < 2 ^ 20) (hst : stop ≤ 9) (T9 : ToldOk l0 b dl ow pe stop (TT.map teVal)) (hw : waitOf ow pe (b + dl) = none) :
    Ctr w 12 227 [.ref d, .ref tl, .none, .int b t1, .int dl t2, .int stop t3] [] ((d, o) :: (tl, toldObj TT e) :: TT.map teObj) (fun r _ new => new = [] ∧ r = .bool true) := by
  have h9 : TT.length ≤ 9 := by have := T9.len; rw [List.length_map] at this; omega
  have hz := T9.never hw
  rw [List.length_map] at hz
  exact c_ends_none w d tl o e l0 b dl now stop TT t1 t2 t3 0 hd lo ok hb hb' hl hl' h9 hz
theorem c_ends_s (w : World) (d tl : Addr) (o : Obj) (e : Nat) (l0 : Ask) (b dl now ow pe v : Int) (stop : Nat) (TT : List TE) (t1 t2 t3 t4 : Tok) (hd : o.IsDictOf (strKind PySem.Challenge.rw_sj0109_01.row.prog w) (kv l0)) (lo : (d == sysModules) = false)
    (ok : AskOk l0 now b) (hb : 0 < b) (hb' : b < 2 ^ 20) (hl : 0 ≤ dl) (hl' : dl < 2 ^ 20) (hst : stop ≤ 9) (T9 : ToldOk l0 b dl ow pe stop (TT.map teVal)) (hw : waitOf ow pe (b + dl) = some v) :
    Ctr w 12 227 [.ref d, .ref tl, .int (minT l0 + v) t4, .int b t1, .int dl t2, .int stop t3] [] ((d, o) :: (tl, toldObj TT e) :: TT.map teObj) (fun r _ new => new = [] ∧ r = .bool true) := by
  have h9 : TT.length ≤ 9 := by have := T9.len; rw [List.length_map] at this; omega
  exact c_ends_some w d tl o e l0 b dl now stop TT t1 t2 t3 t4 hd lo ok hb hb' hl hl' h9 v (ends_ok (now := now) T9 hw)
theorem c_dead_n (w : World) (x dx : Addr) (k1 k2 k3 k4 q1 q2 q3 : Tok) (ow pe si : Int) (ha : Bool) (pw : Int) (t1 : Tok) (hw : waitOf ow pe pw = none) : Ctr w 6 109 [.ref x, .int pw t1] [] [(x, instObj 126 dx), (dx, (dictOf [⟨PyData.keyHash w.params (Str.ofString "own"), .str (Str.ofString "own") k1, .int ow q1⟩, ⟨PyData.keyHash w.params (Str.ofString "peer"), .str (Str.ofString "peer") k2, .int pe q2⟩, ⟨PyData.keyHash w.params (Str.ofString "since"), .str (Str.ofString "since") k3, .int si q3⟩, ⟨PyData.keyHash w.params (Str.ofString "has_asked"), .str (Str.ofString "has_asked") k4, .bool ha⟩] 4))] (fun r _ new => new = [] ∧ r = .none) :=
  (c_deadline w x dx k1 k2 k3 k4 q1 q2 q3 ow pe si ha pw t1).mono fun r _ nw h => by
    obtain ⟨e1, ⟨e2, _⟩ | ⟨v, t, _, e3⟩⟩ := h
    · exact ⟨e1, e2⟩
    · rw [hw] at e3; cases e3
theorem c_dead_s (w : World) (x dx : Addr) (k1 k2 k3 k4 q1 q2 q3 : Tok) (ow pe si : Int) (ha : Bool) (pw v : Int) (t1 : Tok) (hw : waitOf ow pe pw = some v) : Ctr w 6 109 [.ref x, .int pw t1] [] [(x, instObj 126 dx), (dx, (dictOf [⟨PyData.keyHash w.params (Str.ofString "own"), .str (Str.ofString "own") k1, .int ow q1⟩, ⟨PyData.keyHash w.params (Str.ofString "peer"), .str (Str.ofString "peer") k2, .int pe q2⟩, ⟨PyData.keyHash w.params (Str.ofString "since"), .str (Str.ofString "since") k3, .int si q3⟩, ⟨PyData.keyHash w.params (Str.ofString "has_asked"), .str (Str.ofString "has_asked") k4, .bool ha⟩] 4))] (fun r _ new => new = [] ∧ ∃ t, r = .int (si + v) t) :=
  (c_deadline w x dx k1 k2 k3 k4 q1 q2 q3 ow pe si ha pw t1).mono fun r _ nw h => by
    obtain ⟨e1, ⟨_, e3⟩ | ⟨v', t, e2, e3⟩⟩ := h
    · rw [hw] at e3; cases e3
    · rw [hw] at e3; cases e3; exact ⟨e1, t, e2⟩
theorem c_over_n (w : World) (x dx : Addr) (k1 k2 k3 k4 q1 q2 q3 : Tok) (ow pe si : Int) (ha : Bool) (pw nw v : Int) (t1 t2 : Tok) (hw : waitOf ow pe pw = some v) (hn : nw < si + v) : Ctr w 9 116 [.ref x, .int nw t2, .int pw t1] [] [(x, instObj 126 dx), (dx, (dictOf [⟨PyData.keyHash w.params (Str.ofString "own"), .str (Str.ofString "own") k1, .int ow q1⟩, ⟨PyData.keyHash w.params (Str.ofString "peer"), .str (Str.ofString "peer") k2, .int pe q2⟩, ⟨PyData.keyHash w.params (Str.ofString "since"), .str (Str.ofString "since") k3, .int si q3⟩, ⟨PyData.keyHash w.params (Str.ofString "has_asked"), .str (Str.ofString "has_asked") k4, .bool ha⟩] 4))] (fun r _ new => new = [] ∧ r = .bool false) :=
  (c_is_over w x dx k1 k2 k3 k4 q1 q2 q3 ow pe si ha pw nw t1 t2).mono fun r _ _ h => by
    obtain ⟨e1, e2⟩ := h
    refine ⟨e1, e2.trans (congrArg Value.bool ?_)⟩
    unfold overAt
    rw [hw]
    exact decide_eq_false (by omega)
theorem c_over_y (w : World) (x dx : Addr) (k1 k2 k3 k4 q1 q2 q3 : Tok) (ow pe si : Int) (ha : Bool) (pw nw v : Int) (t1 t2 : Tok) (hw : waitOf ow pe pw = some v) (hn : si + v ≤ nw) : Ctr w 9 116 [.ref x, .int nw t2, .int pw t1] [] [(x, instObj 126 dx), (dx, (dictOf [⟨PyData.keyHash w.params (Str.ofString "own"), .str (Str.ofString "own") k1, .int ow q1⟩, ⟨PyData.keyHash w.params (Str.ofString "peer"), .str (Str.ofString "peer") k2, .int pe q2⟩, ⟨PyData.keyHash w.params (Str.ofString "since"), .str (Str.ofString "since") k3, .int si q3⟩, ⟨PyData.keyHash w.params (Str.ofString "has_asked"), .str (Str.ofString "has_asked") k4, .bool ha⟩] 4))] (fun r _ new => new = [] ∧ r = .bool true) :=
  (c_is_over w x dx k1 k2 k3 k4 q1 q2 q3 ow pe si ha pw nw t1 t2).mono fun r _ _ h => by
    obtain ⟨e1, e2⟩ := h
    refine ⟨e1, e2.trans (congrArg Value.bool ?_)⟩
    unfold overAt
    rw [hw]
    exact decide_eq_true hn
section
variable {h₀ h : Heap} {L : Addr}
theorem news_mid {a : Addr × Obj} {T l : List (Addr × Obj)} (N : News h₀ L h (a :: (T ++ l))) : News h₀ L h (a :: (l ++ T)) := fun p hp => N p (by
  simp only [List.mem_cons, List.mem_append] at hp ⊢
  rcases hp with h | h | h
  · exact .inl h
  · exact .inr (.inr h)
  · exact .inr (.inl h))
theorem offNew_mem {a : Addr} {l : List (Addr × Obj)} (h : OffNew a l) : ∀ q ∈ l, q.1 ≠ a := by
  induction l with
  | nil => intro q hq; cases hq
  | cons x t ih =>
    intro q hq
    obtain ⟨h1, h2⟩ := h
    rcases List.mem_cons.mp hq with rfl | hq
    · exact h1
    · exact ih h2 q hq
theorem offAll_mem {new news : List (Addr × Obj)} (h : OffAll news new) : ∀ q ∈ news, ∀ p ∈ new, p.1 ≠ q.1 := by
  induction new with
  | nil => intro q _ p hp; cases hp
  | cons x t ih =>
    intro q hq p hp
    obtain ⟨h1, h2⟩ := h
    rcases List.mem_cons.mp hp with rfl | hp
    · exact fun e => offNew_mem h1 q hq e.symm
    · exact ih h2 q hq p hp
end
def StopPost (h₀ : Heap) (L : Addr) (s : Shared) (m : Str → Option Value) (g : Obj → List (Addr × Obj)) (l : Addr) (e : Nat) (v : Value) (s' : Shared) : Prop :=
  ∃ (st : Nat) (t : Tok) (h' : Heap) (tk : Nat) (kb : Int) (tb : Tok), v = .int (st : Int) t ∧ st ≤ 9 ∧ s' = { s with heap := h', toks := tk } ∧ Fr h₀ L h' m ∧ News h₀ L h' (g { cls := .type "list", data := .seq #[.ref l, .int kb tb] e }) ∧ (0 : Int) ≤ kb
theorem stopPost_of {h₀ : Heap} {L : Addr} {s : Shared} {m : Str → Option Value} {g : Obj → List (Addr × Obj)} {l : Addr} {e : Nat} {v : Int} {t : Tok} {h' : Heap} {tk : Nat} {kb : Int} {tb : Tok} {all : List (Addr × Obj)} (h0 : 0 ≤ v) (h9 : v ≤ 9) (F : Fr h₀ L h' m) (N : News h₀ L h' all) (sub : ∀ p ∈ g { cls := .type "list", data := .seq #[.ref l, .int kb tb] e }, p ∈ all) (hk : (0 : Int) ≤ kb) : StopPost h₀ L s m g l e (.int v t) { s with heap := h', toks := tk } :=
  ⟨v.toNat, t, h', tk, kb, tb, by rw [Int.toNat_of_nonneg h0], by omega, rfl, F, fun p hp => N p (sub p hp), hk⟩
theorem stop_join {M : Model} {A : Around} {E Q : Value → Shared → Prop} {s : Shared} {h₀ : Heap} {L db l : Addr} {e : Nat} {m : Str → Option Value} {o : Obj} {news : List (Addr × Obj)} {g : Obj → List (Addr × Obj)} {t : Sem Value}
    (_F : Fr h₀ L s.heap m) (_N : News h₀ L s.heap news) (_U : UpdF db o news g) (_o : ∃ kb tb, o = { cls := .type "list", data := .seq #[.ref l, .int kb tb] e }) (val : wpAny M A t (StopPost h₀ L s m g l e) E s)
    (cont : ∀ (st : Nat) t h' tk kb tb, st ≤ 9 → Fr h₀ L h' m → News h₀ L h' (g { cls := .type "list", data := .seq #[.ref l, .int kb tb] e }) → (0 : Int) ≤ kb → Q (.int (st : Int) t) { s with heap := h', toks := tk }) : wpAny M A t Q E s :=
  wpAny_mono val (fun v s' h => by obtain ⟨st, t, h', tk, kb, tb, rfl, h9, rfl, F', N', hk⟩ := h; exact cont st t h' tk kb tb h9 F' N' hk) fun _ _ e => e
end Mine
end
section
open PySem PySem.W PyProof.Rows
set_option maxRecDepth 100000
set_option maxHeartbeats 1000000
namespace Mine
open PySem.Spec PySem.Calls
theorem ints_tt : ∀ TT : List TE, IntsAre (TT.map fun e => Value.int e.2.1 e.2.2.1) (TT.map fun e => e.2.1)
  | [] => .nil
  | _ :: r => .cons _ _ (ints_tt r)
theorem ints_kv : ∀ l : Ask, IntsAre ((kv l).map (·.2)) (l.map fun e => e.2.1)
  | [] => .nil
  | _ :: r => .cons _ _ (ints_kv r)
section
variable {prog : Program} {w : World} {A : Around} {E : Value → Shared → Prop} {s : Shared} {h₀ : Heap} {L : Addr} {m : Str → Option Value} {env : Env} {news : List (Addr × Obj)} {TT : List TE} {n : Nat} {tl : Addr}
theorem told_times {x x₂ : Str} {pe : Pos} {scope : Scope} {cl : List (Str × Addr)} {Fin : Shared → List Value → List (Addr × Obj) → Prop}
    (hh : A.handled = none) (F : Fr h₀ L s.heap m) (N : News h₀ L s.heap news) (hm : (tl, toldObj TT n) ∈ news) (hT : ∀ p ∈ TT.map teObj, p ∈ news) (h9 : TT.length ≤ 9)
    (hk : ∀ C, (compEnvC scope cl C env).scope.kind = .function) (hl : ∀ C, (compEnvC scope cl C env).kindOf x = some .local) (hd : (x == ("__debug__" : Str)) = false)
    (fin : ∀ g, Fin { s with heap := g } (TT.map fun e => Value.int e.2.1 e.2.2.1) news) :
    LCp.SrcLP prog w A h₀ L m env (.Name x pe) x x₂ scope cl Fin (.ref tl) s := by
  refine LCp.SrcLP.ledger hh F N hm (by rw [sizeLine_eq]; simp; omega) fun g => ?_
  have key : ∀ (R P : List TE), TT = P ++ R → LCp.CompRestP prog w A h₀ L m env (.Name x pe) x x₂ scope cl { s with heap := g } (LCg.SrcAt h₀ tl (TT.map fun e => Value.ref e.1).toArray) (fun i v => ((TT.map fun e => Value.ref e.1).toArray)[i]? = some v) (Fin { s with heap := g }) R.length P.length (P.map fun e => Value.int e.2.1 e.2.2.1) news := by
    intro R
    induction R with
    | nil =>
      intro P hP
      rw [List.append_nil] at hP
      subst hP
      exact LCp.CompRestP.zero (fin g)
    | cons e r ih =>
      intro P hP
      refine LCp.CompRestP.succ fun v hv => ?_
      have he : v = .ref e.1 := by
        rw [hP] at hv
        simp at hv
        exact hv.symm
      have hin : teObj e ∈ news := hT _ (List.mem_map_of_mem (by rw [hP]; exact List.mem_append_right _ (.head _)))
      refine ⟨e.1, _, .int e.2.1 e.2.2.1, .str e.2.2.2.1 e.2.2.2.2, 0, he, hin, rfl, rfl, ?_⟩
      intro I oI C oC D m₂ h tk E' hC h1 h2 F' N' off ne
      refine LCgL.ld_own N' (.tail _ (.head _)) hC h1 ?_ (hk C) (hl C) hd
      have e1 := ih (P ++ [e]) (by rw [hP, List.append_assoc]; rfl)
      rw [List.length_append, List.map_append] at e1
      exact LCg.CompEnd.intro F' N' news (fun _ hp => hp) off (.inr ⟨_, hm, rfl, _, rfl⟩) e1
  have := key TT [] rfl
  simpa using this
theorem list_vals {o : Obj} {l : Ask} {v d : Addr} {Q : Value → Shared → Prop} (hh : A.handled = none) (F : Fr h₀ L s.heap m) (N : News h₀ L s.heap news) (hv : (v, { cls := .type "dict_values", data := .fields #[.ref d] }) ∈ news) (hp : (d, o) ∈ news) (hd : o.IsDictOf (strKind prog w) (kv l)) (h3 : l.length ≤ 3)
    (h : ∀ (B : Addr) c h' tk, Fr h₀ L h' m → News h₀ L h' ((B, { cls := .type "list", data := .seq ((kv l).map (·.2)).toArray c }) :: news) → Q (.ref B) { s with heap := h', toks := tk }) :
    wpAny (model prog w) A (call (.type "list") [.ref v]) Q E s :=
  kdl_list_valuesP hh F N hv hp hd (by rw [kv_length]; omega) fun B c h' tk F' N' _ => h B c h' tk F' N'
theorem add_two {a b : Addr} {vs ws : List Value} {c k : Nat} {Q : Value → Shared → Prop} (F : Fr h₀ L s.heap m) (N : News h₀ L s.heap news) (ma : (a, ({ cls := .type "list", data := .seq vs.toArray k } : Obj)) ∈ news) (mb : (b, ({ cls := .type "list", data := .seq ws.toArray c } : Obj)) ∈ news) (h1 : vs.length ≤ 9) (h2 : ws.length ≤ 3)
    (h : ∀ B h', Fr h₀ L h' m → News h₀ L h' ((B, { cls := .type "list", data := .seq (vs ++ ws).toArray }) :: news) → Q (.ref B) { s with heap := h' }) :
    wpAny (model prog w) A (binaryOp .Add (.ref a) (.ref b)) Q E s :=
  add_lists F N ⟨_, (N _ ma).1, rfl, _, rfl⟩ ⟨_, (N _ mb).1, rfl, _, rfl⟩ (fun h' F' N' => h _ h' F' N') (by rw [sizeLine_eq]; omega)
theorem max_told {a : Addr} {vs : List Value} {ns : List Int} {k : Nat} {Q : Value → Shared → Prop} (hh : A.handled = none) (F : Fr h₀ L s.heap m) (N : News h₀ L s.heap news) (ma : (a, ({ cls := .type "list", data := .seq vs.toArray k } : Obj)) ∈ news) (hi : IntsAre vs ns) (hne : 0 < ns.length)
    (h : ∀ h' M (t : Tok) tk, Fr h₀ L h' m → News h₀ L h' news → Q (.int M t) { s with heap := h', toks := tk }) :
    wpAny (model prog w) A (call (.builtin "max") [.ref a]) Q E s :=
  max_list_N hh F N ⟨_, (N _ ma).1, rfl, _, rfl⟩ hi hne fun h' M t tk F' N' _ _ => h h' M t tk F' N'
theorem ints_all (TT : List TE) {l : Ask} (hne : l ≠ []) : IntsAre ((TT.map fun e => Value.int e.2.1 e.2.2.1) ++ (kv l).map (·.2)) ((TT.map fun e => e.2.1) ++ l.map fun e => e.2.1) ∧ 0 < ((TT.map fun e => e.2.1) ++ l.map fun e => e.2.1).length := by
  refine ⟨(ints_tt TT).append (ints_kv l), ?_⟩
  rw [List.length_append, List.length_map, List.length_map]
  have : 0 < l.length := List.length_pos_iff.mpr hne
  omega
theorem bools_ne {a b : Addr} {k c : Nat} {Q : Value → Shared → Prop} (N : News h₀ L s.heap news) (ma : (a, ({ cls := .type "list", data := .seq [Value.bool false, Value.bool true].toArray k } : Obj)) ∈ news) (mb : (b, ({ cls := .type "list", data := .seq [Value.bool false, Value.bool true].toArray c } : Obj)) ∈ news) (hu : A.units + 64 < cLine)
    (h : Q (.bool false) s) : wpAny (model prog w) A (compareOp .NotEq (.ref a) (.ref b)) Q E s :=
  have r : ReadsAll s.heap [Value.bool false, Value.bool true] [.bool false, .bool true] ([] ++ ([] ++ [])) := .cons (.bool false) (.cons (.bool true) .nil)
  ne_dataH (reads_list_at (N.get ma) rfl rfl r) (reads_list_at (N.get mb) rfl rfl r) (by decide +kernel) (by decide +kernel) hu (by
    have e : (!PyData.eqv (.list [.bool false, .bool true]) (.list [.bool false, .bool true])) = false := by decide +kernel
    rw [e]; exact h)
end
/-- two addresses apart: a word that omega does not see (its splits at each ≠ cost minutes) -/
def NE (a b : Nat) : Prop := a ≠ b
theorem NE.ne {a b : Nat} (h : NE a b) : a ≠ b := h
def NeAll (a : Addr) : List (Addr × Obj) → Prop
  | [] => True
  | p :: r => NE p.1 a ∧ NeAll a r
theorem neAll_of {a : Addr} : ∀ {l : List (Addr × Obj)}, OffNew a l → NeAll a l
  | [], _ => trivial
  | _ :: _, ⟨h, r⟩ => ⟨h, neAll_of r⟩
theorem ne_same {prog : Program} {w : World} {A : Around} {E Q : Value → Shared → Prop} {s : Shared} {a : Int} {t u : Tok} (h : Q (.bool false) s) : wpAny (model prog w) A (compareOp .NotEq (.int a t) (.int a u)) Q E s := ne_int (by simpa using h)
theorem news_drop4 {h₀ h : Heap} {L : Addr} {a b c d : Addr × Obj} {r : List (Addr × Obj)} (N : News h₀ L h (a :: b :: c :: d :: r)) : News h₀ L h r := fun p hp => N p (.tail _ (.tail _ (.tail _ (.tail _ hp))))
theorem told_len {l0 : Ask} {b dl ow pe : Int} {stop : Nat} {TT : List TE} (T : ToldOk l0 b dl ow pe stop (TT.map teVal)) (h : stop ≤ 9) : TT.length ≤ 9 := by
  have := T.len
  rw [List.length_map] at this
  omega
end Mine
end
section
set_option linter.unusedVariables false
set_option maxHeartbeats 8000000
set_option Elab.async false
open PySem PySem.W PyProof.Rows
namespace Mine
theorem law_end {cl : Str → Option Addr} {mean : ExcName → Option Value} {args : List WData} {s₁ s' : Shared} {L m} (F : Fr s₁.heap L s'.heap m) (hg : s'.gens = #[]) (hos : s'.os = s₁.os := by rfl) : GoodW Challenge.rw_sj0109_01.row.claim cl mean args s₁ (.ok (.ret (.bool true))) s' := by
  refine goodW_bool F hg (raisesW_false ?_) ?_ hos
  · wrow_none_raised
  · wrow_post
end Mine
end
section
open PySem PySem.W PyProof.Rows
set_option maxRecDepth 100000
set_option maxHeartbeats 1000000
namespace Mine
open PySem.Spec PySem.Calls
theorem execs_app {env : Env} {b : List Stmt} : ∀ a : List Stmt, execs (a ++ b) env = (execs a env >>= fun f => match f with | .next => execs b env | f => pure f)
  | [] => rfl
  | st :: r => by
    rw [List.cons_append, execs_cons, execs_cons, execs_app r]
    show Sem.bind _ _ = Sem.bind (Sem.bind _ _) _
    rw [PySem.Sem.bind_assoc]
    congr 1
    funext f
    cases f <;> rfl
/-- two names are bound, and nothing else that is told changes -/
def CutPost (s : Shared) (h₀ : Heap) (L : Addr) (m : Str → Option Value) (news : List (Addr × Obj)) (f : Flow) (s' : Shared) : Prop :=
  f = .next ∧ ∃ wv ev h tk, s' = { s with heap := h, toks := tk } ∧ Fr h₀ L h (fun y => if y = Str.ofString "end" then some ev else if y = Str.ofString "wait" then some wv else m y) ∧ News h₀ L h news
theorem cutPost {s : Shared} {h₀ h : Heap} {L : Addr} {m : Str → Option Value} {news all : List (Addr × Obj)} {wv ev : Value} {tk : Nat} (F : Fr h₀ L h (fun y => if y = Str.ofString "end" then some ev else if y = Str.ofString "wait" then some wv else m y)) (N : News h₀ L h all) (hs : ∀ q ∈ news, q ∈ all) :
    CutPost s h₀ L m news .next { s with heap := h, toks := tk } := ⟨rfl, wv, ev, h, tk, rfl, F, fun q hq => N q (hs q hq)⟩
theorem cut_tail {M : Model} {A : Around} {E : Value → Shared → Prop} {Q : Flow → Shared → Prop} {s : Shared} {env : Env} {h₀ : Heap} {L : Addr} {m : Str → Option Value} {news : List (Addr × Obj)} {a1 a2 a3 a4 a5 b : Stmt} (_F : Fr h₀ L s.heap m) (_N : News h₀ L s.heap news)
    (front : wpAny M A (execs [a1, a2, a3, a4, a5] env) (CutPost s h₀ L m news) E s)
    (tail : ∀ wv ev h tk, Fr h₀ L h (fun y => if y = Str.ofString "end" then some ev else if y = Str.ofString "wait" then some wv else m y) → News h₀ L h news → wpAny M A (execs [b] env) Q E { s with heap := h, toks := tk }) :
    wpAny M A (execs [a1, a2, a3, a4, a5, b] env) Q E s := by
  show wpAny M A (execs ([a1, a2, a3, a4, a5] ++ [b]) env) Q E s
  rw [execs_app]
  refine wpAny_bind (wpAny_mono front (fun f s' p => ?_) fun _ _ e => e)
  obtain ⟨rfl, wv, ev, h, tk, rfl, F, N⟩ := p
  exact tail wv ev h tk F N
end Mine
end
end
section
open PySem PySem.W PyProof.Rows
set_option Elab.async false
set_option maxRecDepth 100000
set_option maxHeartbeats 40000000
set_option pp.deepTerms false
set_option pp.proofs.threshold 0
set_option linter.unusedSimpArgs false
namespace Mine
local macro_rules | `(tactic| walk_at $s:str) => `(tactic| k_extra $s)
local macro_rules | `(tactic| k_ne) => `(tactic| (refine neN ?_; (try dsimp only); first | (refine Nat.ne_of_lt ?_; walk_at "LTF") | (refine Nat.ne_of_gt ?_; walk_at "LTF") | walk_at "LTF" | (refine Ne.symm ?_; walk_at "LTF") | omega))
local macro_rules | `(tactic| k_room) => `(tactic| ktr_room)
local macro_rules | `(tactic| k_units) => `(tactic| ktr_units)
local macro_rules | `(tactic| ktr_room) => `(tactic| exact Nat.le_of_ble_eq_true rfl)
local macro_rules | `(tactic| ktr_units) => `(tactic| exact Nat.le_of_ble_eq_true rfl)
local macro_rules | `(tactic| k_ne) => `(tactic| (refine neN ?_; (try dsimp only); first | (refine NE.ne ?_; with_reducible assumption) | (refine Ne.symm (NE.ne ?_); with_reducible assumption)))
local macro_rules | `(tactic| k_all) => `(tactic| with_reducible assumption)
local macro_rules | `(tactic| k_all) => `(tactic| ((with_reducible refine' List.forall_mem_cons.mpr (And.intro ?zx ?zy)); (case zx => k_ne); (case zy => k_all)))
local macro_rules | `(tactic| k_upd) => `(tactic| first | ((with_reducible refine' Upd.head ?zh); (case zh => k_all)) | ((with_reducible refine' Upd.tail ?za ?zb); (case za => k_ne); (case zb => k_upd)))
theorem conv_walk {as : List Addr} {pf} {r : RowW} {D : DefRec} {kw} {run} (h : WalkO pre.view_1_2 [] (XL pre.view_1_2 []) (kHook pre.heap_1_1 as pf).says r D kw run) : WalkO pre.view_1_2 [] (XL pre.view_1_2 []) (kHook pre.heap_1_1 as pf).says r D kw run := h
theorem law_t.tw3212333702013494301 : True := trivial
theorem law_t.tw7550496547915142017 : True := trivial
theorem law_t.tw9945703327212449547 : True := trivial
theorem law_t.tw15765747190336513885 : True := trivial
theorem law_t.tw973149697914435086 : True := trivial
theorem law_t.tw9166406054179402495 : True := trivial
theorem law_t.tw17367843059633888843 : True := trivial
theorem law_t.tw2986875476736245066 : True := trivial
theorem law_t.tw13069095484428372553 : True := trivial
theorem law_t.tw1710251767915184199 : True := trivial
theorem law_t.tw9286507850838876541 : True := trivial
theorem law_t.tw2278836458985697608 : True := trivial
theorem law_t.tw6840409154951700732 : True := trivial
theorem law_t.tw3480911255204524284 : True := trivial
theorem law_t.tw5924491866587752311 : True := trivial
theorem law_t.tw8662896504060688875 : True := trivial
theorem law_t.tw9800978226614043835 : True := trivial
theorem law_t.tw12619816473335934278 : True := trivial
theorem law_t.tw18141715465244273828 : True := trivial
theorem law_t.tw5157273275940685461 : True := trivial
theorem law_t.tw14355545442542504492 : True := trivial
theorem law_t.tw10921739340257792047 : True := trivial
theorem law_t.tw5493609668438008599 : True := trivial
theorem law_t.tw12358012565802812008 : True := trivial
theorem law_t.tw10288096755266987045 : True := trivial
theorem law_t.tw13526524222112015209 : True := trivial
theorem law_t.tw5787029881216342796 : True := trivial
theorem law_t.tw7776177294765613287 : True := trivial
theorem law_t.tw10041621988211709499 : True := trivial
theorem law_t.tw12166420736922594502 : True := trivial
theorem law_t.tw14207057731558352735 : True := trivial
theorem law_t.tw15637723773936995818 : True := trivial
theorem law_t.tw2508316610244631430 : True := trivial
theorem law_t.tw10504198666363452509 : True := trivial
theorem law_t.tw2983586630279843750 : True := trivial
theorem law_t.tw4745510915679940594 : True := trivial
theorem law_t.tw6364365227873385729 : True := trivial
theorem law_t.tw5502219189471082207 : True := trivial
theorem law_t.tw8844627184636151883 : True := trivial
theorem law_t.tw8730544253462906497 : True := trivial
theorem law_t.tw10141523957427905433 : True := trivial
theorem law_t.tw1316596791330431717 : True := trivial
theorem law_t.tw9074379616796764568 : True := trivial
theorem law_t.tw5015420583959362374 : True := trivial
theorem law_t.tw14846462789446320182 : True := trivial
theorem law_t.tw8770077430686460298 : True := trivial
theorem law_t.tw2002530643126745573 : True := trivial
theorem law_t.tw13424349200931474535 : True := trivial
theorem law_t.tw9178391979471723238 : True := trivial
theorem law_t.tw4422979291355263401 : True := trivial
theorem law_t.tw15738532001378884992 : True := trivial
theorem law_t.tw9591836127063153986 : True := trivial
theorem law_t.tw15952612696975926248 : True := trivial
theorem law_t.tw7649089608824525501 : True := trivial
theorem law_t.tw16071279691285583756 : True := trivial
theorem law_t.tw4391161196328166051 : True := trivial
theorem law_t.tw1553034916289142320 : True := trivial
theorem law_t.tw3323354217428617351 : True := trivial
theorem law_t.tw17634992041662696980 : True := trivial
theorem law_t.tw13652308673460804752 : True := trivial
theorem law_t.tw7133862662877448597 : True := trivial
theorem law_t.tw10351634223948174004 : True := trivial
theorem law_t.tw11859244484710054739 : True := trivial
theorem law_t.tw14293225818992365026 : True := trivial
theorem law_t.tw6248245859910746348 : True := trivial
theorem law_t.tw5695170458481204885 : True := trivial
theorem law_t.tw13102367229969693017 : True := trivial
theorem law_t.tw7084088445169377371 : True := trivial
theorem law_t.tw7667679995015591151 : True := trivial
theorem law_t.tw14563585444836334769 : True := trivial
theorem law_t.tw17364345782762803510 : True := trivial
theorem law_t.tw4935107059920552750 : True := trivial
theorem law_t.tw4499537950312726563 : True := trivial
theorem law_t.tw7197011671043536636 : True := trivial
theorem law_t.tw13217234823800856510 : True := trivial
theorem law_t.tw15452650669425576505 : True := trivial
theorem law_t.tw3447408363627482543 : True := trivial
theorem law_t.tw18139469208599399538 : True := trivial
theorem law_t.tw11877861126342126159 : True := trivial
theorem law_t.tw14682113607040963522 : True := trivial
theorem law_t.tw6650714498644909134 : True := trivial
theorem law_t.tw10137037045430298233 : True := trivial
theorem law_t.tw5481366708819878312 : True := trivial
theorem law_t.tw12970797480110854979 : True := trivial
theorem law_t.tw11846473941698472447 : True := trivial
theorem law_t.tw2585508900591366254 : True := trivial
theorem law_t.tw6821673811649077831 : True := trivial
theorem law_t.tw3470104454997367879 : True := trivial
theorem law_t.tw15172378874953070004 : True := trivial
theorem law_t.tw10799683266374051841 : True := trivial
theorem law_t.tw1721493342656396534 : True := trivial
theorem law_t.tw4218968496052785150 : True := trivial
theorem law_t.tw15665462056610158921 : True := trivial
theorem law_t.tw511773978856778805 : True := trivial
theorem law_t.tw617674521579946607 : True := trivial
theorem law_t.tw5011161508257702940 : True := trivial
theorem law_t.tw6202104750961515108 : True := trivial
theorem law_t.tw8976623909890637223 : True := trivial
theorem law_t.tw17405656302811125226 : True := trivial
theorem law_t.tw3842345484598906758 : True := trivial
theorem law_t.tw11864018938700690773 : True := trivial
theorem law_t.tw7320006272557850461 : True := trivial
theorem law_t.tw15205057794533642437 : True := trivial
theorem law_t.tw8792588150504966346 : True := trivial
theorem law_t.tw4266910744618112094 : True := trivial
theorem law_t.tw17152542964299410448 : True := trivial
theorem law_t.tw1577142524228694577 : True := trivial
theorem law_t.tw3290553081156356057 : True := trivial
theorem law_t.tw2831159780451072108 : True := trivial
theorem law_t.tw2446648754445461654 : True := trivial
theorem law_t.tw15268431576264802505 : True := trivial
theorem law_t.tw13949893015901175904 : True := trivial
theorem law_t.tw17842438192881012954 : True := trivial
theorem law_t.tw11546280583058921613 : True := trivial
theorem law_t.tw11090567542796284011 : True := trivial
theorem law_t.tw13566991935149067075 : True := trivial
theorem law_t.tw1834227646539290620 : True := trivial
theorem law_t.tw12613488948356630966 : True := trivial
theorem law_t.tw11391183847641964941 : True := trivial
theorem law_t.tw479122534205793861 : True := trivial
theorem law_t.tw2192105139851793740 : True := trivial
theorem law_t.tw1203512959103559278 : True := trivial
theorem law_t.tw350529333323317086 : True := trivial
theorem law_t.tw11109888483624479196 : True := trivial
theorem law_t.tw15593703606134568326 : True := trivial
theorem law_t.tw4816607393597910728 : True := trivial
theorem law_t.tw220753477943597065 : True := trivial
theorem law_t.tw8532610035360296580 : True := trivial
theorem law_t.tw10644909530748678213 : True := trivial
theorem law_t.tw12207130634196065462 : True := trivial
theorem law_t.tw2825326834827819748 : True := trivial
set_option Elab.async true in
theorem law_t : PySem.Challenge.rw_sj0109_01.Holds := by
  k_with_none
  k_with "LTF" => (with_reducible first | assumption | (apply And.left; assumption) | (apply And.left; apply And.right; assumption) | (apply And.right; assumption) | (apply And.left; apply And.right; apply And.right; assumption) | (apply And.right; apply And.right; assumption) | (apply And.left; apply And.right; apply And.right; apply And.right; assumption) | (apply And.right; apply And.right; apply And.right; assumption) | (apply And.left; apply And.right; apply And.right; apply And.right; apply And.right; assumption) | (apply And.right; apply And.right; apply And.right; apply And.right; assumption) | (apply And.left; apply And.right; apply And.right; apply And.right; apply And.right; apply And.right; assumption) | (apply And.right; apply And.right; apply And.right; apply And.right; apply And.right; assumption) | (apply And.left; apply And.right; apply And.right; apply And.right; apply And.right; apply And.right; apply And.right; assumption) | (apply And.right; apply And.right; apply And.right; apply And.right; apply And.right; apply And.right; assumption) | (apply And.left; apply And.right; apply And.right; apply And.right; apply And.right; apply And.right; apply And.right; apply And.right; assumption) | (apply And.right; apply And.right; apply And.right; apply And.right; apply And.right; apply And.right; apply And.right; assumption) | (apply And.left; apply And.right; apply And.right; apply And.right; apply And.right; apply And.right; apply And.right; apply And.right; apply And.right; assumption) | (apply And.right; apply And.right; apply And.right; apply And.right; apply And.right; apply And.right; apply And.right; apply And.right; assumption) | (apply And.left; apply And.right; apply And.right; apply And.right; apply And.right; apply And.right; apply And.right; apply And.right; apply And.right; apply And.right; assumption) | (apply And.right; apply And.right; apply And.right; apply And.right; apply And.right; apply And.right; apply And.right; apply And.right; apply And.right; assumption) | (apply And.left; apply And.right; apply And.right; apply And.right; apply And.right; apply And.right; apply And.right; apply And.right; apply And.right; apply And.right; apply And.right; assumption) | (apply And.right; apply And.right; apply And.right; apply And.right; apply And.right; apply And.right; apply And.right; apply And.right; apply And.right; apply And.right; assumption) | (apply And.left; apply And.right; apply And.right; apply And.right; apply And.right; apply And.right; apply And.right; apply And.right; apply And.right; apply And.right; apply And.right; apply And.right; assumption) | (apply And.right; apply And.right; apply And.right; apply And.right; apply And.right; apply And.right; apply And.right; apply And.right; apply And.right; apply And.right; apply And.right; assumption) | (apply And.left; apply And.right; apply And.right; apply And.right; apply And.right; apply And.right; apply And.right; apply And.right; apply And.right; apply And.right; apply And.right; apply And.right; apply And.right; assumption) | (apply And.right; apply And.right; apply And.right; apply And.right; apply And.right; apply And.right; apply And.right; apply And.right; apply And.right; apply And.right; apply And.right; apply And.right; assumption))
  k_with "exec For Name Name cons nil" => ((k_here; (rename Fr _ _ _ _ => lF'); (with_unfolding_all refine' For_turnsG lF' ?g_r1 ?_; (case g_r1 => exact rfl); k_whole)))
  k_with "callWith ref cons nil" => ((k_here; (with_reducible show wpAny _ _ (callWith _ (Value.ref _) _ (backTo _ (starEach [] _)) []) _ _ _); k_dflt (refine' callWith_K0 ?k1_r2 ?k2_r2 ?_; (case k1_r2 => exact Frag.In.keeps (by with_reducible assumption) (Fr.keep (by k_asm))); (case k2_r2 => k_is); k_whole)))
  k_with "call ref" => ((k_here; k_dflt (k_dflt (refine' ctr_mut (c_drawn _ _ _ _ _ _ _ _ _ _ _ ?s1_r3 ?s2_r3 ?s3_r3 ?s4_r3 ?s5_r3 ?s6_r3) ?k1_r3 ?k2_r3 ?k3_r3 ?k4_r3 ?k5_r3 ?kK_r3 ?kd_r3 ?ku_r3 ?ks_r3 ?_; (case k1_r3 => k_asm); (case k2_r3 => k_asm); (case k3_r3 => k_asm); (case k4_r3 => k_asm); (case k5_r3 => k_asm); (case kK_r3 => first | exact rfl | assumption); (case ks_r3 => k_subL); (case s1_r3 => assumption); (case s2_r3 => first | exact List.length_take_le _ _ | omega | assumption); (case s3_r3 => first | assumption | omega | l_fact); (case s4_r3 => first | assumption | omega | l_fact); (case s5_r3 => first | assumption | omega | l_fact); (case s6_r3 => first | assumption | omega | l_fact); (case kd_r3 => ktr_room); (case ku_r3 => ktr_units); k_whole); intro r9 o9 new9 h9 tk9 P9 F9 N9 D9; obtain ⟨e9, v9, t9, u9, e9r, b9, c9, e9m⟩ := P9; subst e9 e9r; (have e9o := one_eq e9m); subst e9o; clear e9m D9; (replace N9 := N9 _ (by k_upd)); (simp only [List.nil_append] at N9); (try dsimp only); (try k_fold))))
  k_with "subscriptTail" => ((k_here; (with_reducible show wpAny _ _ (subscriptTail _ _ (Value.ref _) (Value.int _ _)) _ _ _); k_dflt (refine' menu4 ?N_r4 ?m_r4 ?a_r4 ?b_r4 ?_; (case N_r4 => k_asm); (case m_r4 => exact List.Mem.head _); (case a_r4 => assumption); (case b_r4 => assumption); intro zM tM)))
  k_with "call type:range" => ((k_here; k_dflt ((rename Fr _ _ _ _ => F'); (rename News _ _ _ _ => N'); (with_unfolding_all refine range1_rows F' N' ?_); intro _ _ _ _ _ _ _ _ _)))
  k_with "exec For Name Call cons nil" => ((k_here; (rename Fr _ _ _ _ => lF'); (with_unfolding_all refine' For_invVF lF' ?k1_r6 ?k2_r6 ?_; (case k1_r6 => exact rfl); (case k2_r6 => exact rfl); k_whole)))
  k_with "call ref" => ((k_here; k_dflt (k_dflt (refine' ctr_mut (c_sample_first _ _ _ _ _ _ _ _ _ _ _ _ _ _ _ _ _ ?h1_r7 _ _ _ _ _) ?k1_r7 ?k2_r7 ?k3_r7 ?k4_r7 ?k5_r7 ?kK_r7 ?kd_r7 ?ku_r7 ?ks_r7 ?_; (case k1_r7 => k_asm); (case k2_r7 => k_asm); (case k3_r7 => k_asm); (case k4_r7 => k_asm); (case k5_r7 => k_asm); (case kK_r7 => first | exact rfl | assumption); (case ks_r7 => k_subL); (case h1_r7 => first | assumption | omega); (case kd_r7 => ktr_room); (case ku_r7 => ktr_units); k_whole); intro r9 o9 new9 h9 tk9 P9 F9 N9 D9; obtain ⟨e9, e9r, t94, t95, t96, t97, e9m⟩ := P9; subst e9 e9r; (have e9o := one_eq e9m); subst e9o; clear e9m D9; (replace N9 := N9 _ (by k_upd)); (simp only [List.nil_append] at N9); (try dsimp only); (try k_fold))))
  k_with "call ref" => ((k_here; k_dflt (k_dflt (refine' ctr_mut (c_sample_next _ _ _ _ _ _ _ _ _ _ _ _ _ _ _ _ _ ?h1_r8 _ _ _ _ _ _ _) ?k1_r8 ?k2_r8 ?k3_r8 ?k4_r8 ?k5_r8 ?kK_r8 ?kd_r8 ?ku_r8 ?ks_r8 ?_; (case k1_r8 => k_asm); (case k2_r8 => k_asm); (case k3_r8 => k_asm); (case k4_r8 => k_asm); (case k5_r8 => k_asm); (case kK_r8 => first | exact rfl | assumption); (case ks_r8 => k_subL); (case h1_r8 => first | assumption | omega); (case kd_r8 => ktr_room); (case ku_r8 => ktr_units); k_whole); intro r9 o9 new9 h9 tk9 P9 F9 N9 D9; obtain ⟨e9, e9r, le9, s89, v49, t94, t95, t96, t97, e9m, e9s, e9v⟩ := P9; subst e9 e9r; (have e9o := one_eq e9m); subst e9o; clear e9m D9; (replace N9 := N9 _ (by k_upd)); (simp only [List.nil_append] at N9); (try dsimp only); (try k_fold))))
  k_with "call ref" => ((k_here; k_dflt (k_dflt (refine' ctr_mut (c_tell_peer _ _ _ _ _ _ _ _ _ _ _ _ ?h1_r9 _ _ _) ?k1_r9 ?k2_r9 ?k3_r9 ?k4_r9 ?k5_r9 ?kK_r9 ?kd_r9 ?ku_r9 ?ks_r9 ?_; (case k1_r9 => k_asm); (case k2_r9 => k_asm); (case k3_r9 => k_asm); (case k4_r9 => k_asm); (case k5_r9 => k_asm); (case kK_r9 => first | exact rfl | assumption); (case ks_r9 => k_subL); (case h1_r9 => first | assumption | omega); (case kd_r9 => ktr_room); (case ku_r9 => ktr_units); k_whole); intro r9 o9 new9 h9 tk9 P9 F9 N9 D9; obtain ⟨e9, e9r, e9m⟩ := P9; subst e9 e9r; (have e9o := one_eq e9m); subst e9o; clear e9m D9; (replace N9 := N9 _ (by k_upd)); (simp only [List.nil_append] at N9); (try dsimp only); (try k_fold))))
  k_with "call builtin:sorted" => ((k_here; (with_reducible show wpAny _ _ (call (Value.builtin "sorted") [Value.ref _]) _ _ _); k_dflt (refine' vals_sorted (by rfl) ?F_r10 ?N_r10 ?v_r10 ?p_r10 ?d_r10 ?ne_r10 ?l_r10 ?_; (case F_r10 => k_asm); (case N_r10 => k_asm); (case v_r10 => k_mem); (case p_r10 => k_mem); (case d_r10 => assumption); (case ne_r10 => assumption); (case l_r10 => assumption)); intro B' out' ns' h' tk' hI' hP' hS' F' N' l1; (try k_lt l1); (obtain ⟨t8, e8⟩ | ⟨t8, b8, u8, e8⟩ | ⟨t8, b8, u8, c8, v8, e8⟩ := out_cases hI' hP' hS' (by assumption) (by assumption)) <;> (subst e8; clear hI' hP' hS')))
  k_with "call builtin:max" => ((k_here; (with_reducible show wpAny _ _ (call (Value.builtin "max") [Value.ref _]) _ _ _); k_dflt (refine' vals_max (by rfl) ?F_r11 ?N_r11 ?v_r11 ?p_r11 ?d_r11 ?ne_r11 ?_; (case F_r11 => k_asm); (case N_r11 => k_asm); (case v_r11 => k_mem); (case p_r11 => k_mem); (case d_r11 => assumption); (case ne_r11 => assumption)); intro h' tk' t' F' N'))
  k_with "call builtin:min" => ((k_here; (with_reducible show wpAny _ _ (call (Value.builtin "min") [Value.ref _]) _ _ _); k_dflt (refine' vals_min (by rfl) ?F_r12 ?N_r12 ?v_r12 ?p_r12 ?d_r12 ?ne_r12 ?_; (case F_r12 => k_asm); (case N_r12 => k_asm); (case v_r12 => k_mem); (case p_r12 => k_mem); (case d_r12 => assumption); (case ne_r12 => assumption)); intro h' tk' t' F' N'))
  k_with "getMethod ref" => ((k_here; (with_reducible show wpAny _ _ (getMethod (Value.ref _) (Str.ofString "values") _) _ _ _); k_dflt (refine kdl_method (knd := PySem.strKind _ _) PySem.F.slot_dict_values PySem.F.type_dict_values (by k_asm) (by k_mem) (by assumption) ?_)))
  k_with "call ref" => ((k_here; k_dflt (k_dflt (refine' ctr_mut (c_on_received _ _ _ _ _ _ _ _ _ _ _ _ ?h1_r14 _ _ _) ?k1_r14 ?k2_r14 ?k3_r14 ?k4_r14 ?k5_r14 ?kK_r14 ?kd_r14 ?ku_r14 ?ks_r14 ?_; (case k1_r14 => k_asm); (case k2_r14 => k_asm); (case k3_r14 => k_asm); (case k4_r14 => k_asm); (case k5_r14 => k_asm); (case kK_r14 => first | exact rfl | assumption); (case ks_r14 => k_subL); (case h1_r14 => first | assumption | omega); (case kd_r14 => ktr_room); (case ku_r14 => ktr_units); k_whole); intro r9 o9 new9 h9 tk9 P9 F9 N9 D9; obtain ⟨e9, e9r, e9m⟩ := P9; subst e9 e9r; (have e9o := one_eq e9m); subst e9o; clear e9m D9; (replace N9 := N9 _ (by k_upd)); (simp only [List.nil_append] at N9); (try dsimp only); (try k_fold))))
  k_with "call ref" => ((k_here; k_dflt (k_dflt (refine' ctr_pure (c_probe_base _ _ _ _ _ _ _ _ _ _ _ _ _ _ _ _ _ ?h1_r15 _) ?k1_r15 ?k2_r15 ?k3_r15 ?k4_r15 ?k5_r15 ?kK_r15 ?kd_r15 ?ku_r15 ?ks_r15 ?_; (case k1_r15 => k_asm); (case k2_r15 => k_asm); (case k3_r15 => k_asm); (case k4_r15 => k_asm); (case k5_r15 => k_asm); (case kK_r15 => first | exact rfl | assumption); (case ks_r15 => k_subL); (case h1_r15 => first | assumption | omega); (case kd_r15 => ktr_room); (case ku_r15 => ktr_units); k_whole); intro r9 new9 h9 tk9 P9 F9 N9 D9; obtain ⟨e9, t9, e9x⟩ := P9; obtain ⟨b9, e9y, hb91, hb92⟩ := base_of (by assumption) e9x; clear e9x; subst e9 e9y; (try simp only [List.nil_append] at N9); clear D9; (try dsimp only); (try k_fold))))
  k_with "call ref" => ((k_here; k_dflt (k_dflt (refine' ctr_mut (c_asked _ _ _ _ _ _ _ _ _ _ _ _ _ ?s1_r16 ?s2_r16 ?s3_r16 ?s4_r16 ?s5_r16 ?s6_r16) ?k1_r16 ?k2_r16 ?k3_r16 ?k4_r16 ?k5_r16 ?kK_r16 ?kd_r16 ?ku_r16 ?ks_r16 ?_; (case k1_r16 => k_asm); (case k2_r16 => k_asm); (case k3_r16 => k_asm); (case k4_r16 => k_asm); (case k5_r16 => k_asm); (case kK_r16 => first | exact rfl | assumption); (case ks_r16 => k_subL); (case s1_r16 => assumption); (case s2_r16 => first | exact List.length_take_le _ _ | omega | assumption); (case s3_r16 => first | assumption | omega | l_fact); (case s4_r16 => first | assumption | omega | l_fact); (case s5_r16 => first | assumption | omega | l_fact); (case s6_r16 => first | assumption | omega | l_fact); (case kd_r16 => ktr_room); (case ku_r16 => ktr_units); k_whole); intro r9 o9 new9 h9 tk9 P9 F9 N9 D9; obtain ⟨a9, o29, ks9, k29, t39, e9r, e9n, lo9, hd9, ⟨l09, e9k, ok9⟩, hk9, e9m⟩ := P9; subst e9r e9n e9k; (have e9o := one_eq e9m); subst e9o; clear e9m; (replace N9 := N9 _ (by k_upd)); (simp only [List.cons_append, List.nil_append] at N9); (obtain ⟨D9, _⟩ := D9); (replace D9 := neAll_of D9); (simp only [NeAll, and_true] at D9); (obtain ⟨d90, d91, d92, d93, d94, d95, d96, d97, d98, d99, d910⟩ := D9); (have hne9 := keys_ne ok9.keys); (have hkk9 : (0 : Int) ≤ k29 := by omega); (try dsimp only); (try k_fold))))
  k_with "call ref" => ((k_here; k_dflt (k_dflt (refine' ctr_mut (c_probes _ _ _ _ _ _ _ _ _ _ _ _ _ _ _ _ _ _ _ _ _ _ ?h1_r17 ?h2_r17 ?h3_r17 ?h4_r17 ?h5_r17 ?s1_r17 ?s2_r17 ?s3_r17 ?s4_r17 ?s5_r17) ?k1_r17 ?k2_r17 ?k3_r17 ?k4_r17 ?k5_r17 ?kK_r17 ?kd_r17 ?ku_r17 ?ks_r17 ?_; (case k1_r17 => k_asm); (case k2_r17 => k_asm); (case k3_r17 => k_asm); (case k4_r17 => k_asm); (case k5_r17 => k_asm); (case kK_r17 => first | exact rfl | assumption); (case ks_r17 => k_subL); (case h1_r17 => first | assumption | omega); (case h2_r17 => k_ne); (case h3_r17 => assumption); (case h4_r17 => assumption); (case h5_r17 => assumption); (case s1_r17 => first | assumption | omega | l_fact); (case s2_r17 => first | assumption | omega | l_fact); (case s3_r17 => first | assumption | omega | l_fact); (case s4_r17 => first | assumption | omega | l_fact); (case s5_r17 => first | assumption | omega | l_fact); (case kd_r17 => ktr_room); (case ku_r17 => ktr_units); k_whole); intro r9 o9 new9 h9 tk9 P9 F9 N9 D9; obtain ⟨tl9, e9, q9, TT9, e9r, e9m, e9n, T9⟩ := P9; subst e9r e9n; (have e9o := one_eq e9m); subst e9o; clear e9m; (replace N9 := N9 _ (by k_upd)); (simp only [List.cons_append] at N9); (replace N9 := news_mid N9); (simp only [List.cons_append, List.nil_append] at N9); obtain ⟨D91, D92⟩ := D9; (replace D91 := neAll_of D91); (simp only [NeAll, and_true] at D91); (obtain ⟨g90, g91, g92, g93, g94, g95, g96, g97, g98, g99, g910, g911⟩ := D91); (have hof9 := offAll_mem D92); (simp only [List.forall_mem_cons, List.not_mem_nil, false_implies, implies_true, and_true] at hof9); clear D92; obtain ⟨f91, f92, f93, f94, f95, f96, f97, _⟩ := hof9; (try dsimp only); (try k_fold))))
  k_with "call ref" => ((k_here; k_dflt (k_dflt (refine' ctr_pure (c_idle_wait _ _ _ _ _ _ _) ?k1_r18 ?k2_r18 ?k3_r18 ?k4_r18 ?k5_r18 ?kK_r18 ?kd_r18 ?ku_r18 ?ks_r18 ?_; (case k1_r18 => k_asm); (case k2_r18 => k_asm); (case k3_r18 => k_asm); (case k4_r18 => k_asm); (case k5_r18 => k_asm); (case kK_r18 => first | exact rfl | assumption); (case ks_r18 => k_subL); (case kd_r18 => ktr_room); (case ku_r18 => ktr_units); k_whole); intro r9 new9 h9 tk9 P9 F9 N9 D9; obtain ⟨e9, P9x⟩ := P9; subst e9; (try simp only [List.nil_append] at N9); clear D9; (rcases P9x with ⟨e9, P9⟩ | ⟨v9, u9, e9, P9⟩ <;> (subst e9; rw [waitOf_comm] at P9)); (try dsimp only); (try k_fold))))
  k_with "call ref" => ((k_here; k_dflt (k_dflt (refine' ctr_pure (c_spaced _ _ _ _ _ _ _ _ _ _ _ _ _ _ _ ?h1_r19 ?h2_r19 ?h3_r19 ?s1_r19 ?s2_r19 ?s3_r19 ?s4_r19 ?s5_r19 ?h4_r19) ?k1_r19 ?k2_r19 ?k3_r19 ?k4_r19 ?k5_r19 ?kK_r19 ?kd_r19 ?ku_r19 ?ks_r19 ?_; (case k1_r19 => k_asm); (case k2_r19 => k_asm); (case k3_r19 => k_asm); (case k4_r19 => k_asm); (case k5_r19 => k_asm); (case kK_r19 => first | exact rfl | assumption); (case ks_r19 => (exact ⟨by k_mem, by k_mem, subL_of (fun p hp => by repeat (first | exact hp | apply List.Mem.tail))⟩)); (case h4_r19 => assumption); (case h1_r19 => assumption); (case h2_r19 => assumption); (case h3_r19 => assumption); (case s1_r19 => first | assumption | omega | l_fact); (case s2_r19 => first | assumption | omega | l_fact); (case s3_r19 => first | assumption | omega | l_fact); (case s4_r19 => first | assumption | omega | l_fact); (case s5_r19 => first | assumption | omega | l_fact); (case kd_r19 => ktr_room); (case ku_r19 => ktr_units); k_whole); intro r9 new9 h9 tk9 P9 F9 N9 D9; obtain ⟨e9, e9x⟩ := P9; subst e9 e9x; (try simp only [List.nil_append] at N9); clear D9; (try dsimp only); (try k_fold))))
  k_with "call ref" => ((k_here; k_dflt (k_dflt (refine' ctr_pure (c_ends_n _ _ _ _ _ _ _ _ _ _ _ _ _ _ _ _ ?h1_r20 ?h2_r20 ?h3_r20 ?s1_r20 ?s2_r20 ?s3_r20 ?s4_r20 ?s5_r20 ?h4_r20 ?h5_r20) ?k1_r20 ?k2_r20 ?k3_r20 ?k4_r20 ?k5_r20 ?kK_r20 ?kd_r20 ?ku_r20 ?ks_r20 ?_; (case k1_r20 => k_asm); (case k2_r20 => k_asm); (case k3_r20 => k_asm); (case k4_r20 => k_asm); (case k5_r20 => k_asm); (case kK_r20 => first | exact rfl | assumption); (case ks_r20 => (exact ⟨by k_mem, by k_mem, subL_of (fun p hp => by repeat (first | exact hp | apply List.Mem.tail))⟩)); (case h4_r20 => assumption); (case h5_r20 => assumption); (case h1_r20 => assumption); (case h2_r20 => assumption); (case h3_r20 => assumption); (case s1_r20 => first | assumption | omega | l_fact); (case s2_r20 => first | assumption | omega | l_fact); (case s3_r20 => first | assumption | omega | l_fact); (case s4_r20 => first | assumption | omega | l_fact); (case s5_r20 => first | assumption | omega | l_fact); (case kd_r20 => ktr_room); (case ku_r20 => ktr_units); k_whole); intro r9 new9 h9 tk9 P9 F9 N9 D9; obtain ⟨e9, e9x⟩ := P9; subst e9 e9x; (try simp only [List.nil_append] at N9); clear D9; (try dsimp only); (try k_fold))))
  k_with "call ref" => ((k_here; k_dflt (k_dflt (refine' ctr_pure (c_ends_s _ _ _ _ _ _ _ _ _ _ _ _ _ _ _ _ _ _ ?h1_r21 ?h2_r21 ?h3_r21 ?s1_r21 ?s2_r21 ?s3_r21 ?s4_r21 ?s5_r21 ?h4_r21 ?h5_r21) ?k1_r21 ?k2_r21 ?k3_r21 ?k4_r21 ?k5_r21 ?kK_r21 ?kd_r21 ?ku_r21 ?ks_r21 ?_; (case k1_r21 => k_asm); (case k2_r21 => k_asm); (case k3_r21 => k_asm); (case k4_r21 => k_asm); (case k5_r21 => k_asm); (case kK_r21 => first | exact rfl | assumption); (case ks_r21 => (exact ⟨by k_mem, by k_mem, subL_of (fun p hp => by repeat (first | exact hp | apply List.Mem.tail))⟩)); (case h4_r21 => assumption); (case h5_r21 => assumption); (case h1_r21 => assumption); (case h2_r21 => assumption); (case h3_r21 => assumption); (case s1_r21 => first | assumption | omega | l_fact); (case s2_r21 => first | assumption | omega | l_fact); (case s3_r21 => first | assumption | omega | l_fact); (case s4_r21 => first | assumption | omega | l_fact); (case s5_r21 => first | assumption | omega | l_fact); (case kd_r21 => ktr_room); (case ku_r21 => ktr_units); k_whole); intro r9 new9 h9 tk9 P9 F9 N9 D9; obtain ⟨e9, e9x⟩ := P9; subst e9 e9x; (try simp only [List.nil_append] at N9); clear D9; (try dsimp only); (try k_fold))))
  k_with "call ref" => ((k_here; k_dflt (k_dflt (refine' ctr_pure (c_dead_n _ _ _ _ _ _ _ _ _ _ _ _ _ _ _ _ ?h1_r22) ?k1_r22 ?k2_r22 ?k3_r22 ?k4_r22 ?k5_r22 ?kK_r22 ?kd_r22 ?ku_r22 ?ks_r22 ?_; (case k1_r22 => k_asm); (case k2_r22 => k_asm); (case k3_r22 => k_asm); (case k4_r22 => k_asm); (case k5_r22 => k_asm); (case kK_r22 => first | exact rfl | assumption); (case ks_r22 => k_subL); (case h1_r22 => assumption); (case kd_r22 => ktr_room); (case ku_r22 => ktr_units); k_whole); intro r9 new9 h9 tk9 P9 F9 N9 D9; obtain ⟨e9, e9x⟩ := P9; subst e9 e9x; (try simp only [List.nil_append] at N9); clear D9; (try dsimp only); (try k_fold))))
  k_with "call ref" => ((k_here; k_dflt (k_dflt (refine' ctr_pure (c_dead_s _ _ _ _ _ _ _ _ _ _ _ _ _ _ _ _ _ ?h1_r23) ?k1_r23 ?k2_r23 ?k3_r23 ?k4_r23 ?k5_r23 ?kK_r23 ?kd_r23 ?ku_r23 ?ks_r23 ?_; (case k1_r23 => k_asm); (case k2_r23 => k_asm); (case k3_r23 => k_asm); (case k4_r23 => k_asm); (case k5_r23 => k_asm); (case kK_r23 => first | exact rfl | assumption); (case ks_r23 => k_subL); (case h1_r23 => assumption); (case kd_r23 => ktr_room); (case ku_r23 => ktr_units); k_whole); intro r9 new9 h9 tk9 P9 F9 N9 D9; obtain ⟨e9, t9, e9x⟩ := P9; subst e9 e9x; (try simp only [List.nil_append] at N9); clear D9; (try dsimp only); (try k_fold))))
  k_with "call ref" => ((k_here; k_dflt (k_dflt (refine' ctr_pure (c_over_n _ _ _ _ _ _ _ _ _ _ _ _ _ _ _ _ _ _ _ ?h1_r24 ?h2_r24) ?k1_r24 ?k2_r24 ?k3_r24 ?k4_r24 ?k5_r24 ?kK_r24 ?kd_r24 ?ku_r24 ?ks_r24 ?_; (case k1_r24 => k_asm); (case k2_r24 => k_asm); (case k3_r24 => k_asm); (case k4_r24 => k_asm); (case k5_r24 => k_asm); (case kK_r24 => first | exact rfl | assumption); (case ks_r24 => k_subL); (case h1_r24 => assumption); (case h2_r24 => omega); (case kd_r24 => ktr_room); (case ku_r24 => ktr_units); k_whole); intro r9 new9 h9 tk9 P9 F9 N9 D9; obtain ⟨e9, e9x⟩ := P9; subst e9 e9x; (try simp only [List.nil_append] at N9); clear D9; (try dsimp only); (try k_fold))))
  k_with "call ref" => ((k_here; k_dflt (k_dflt (refine' ctr_pure (c_over_y _ _ _ _ _ _ _ _ _ _ _ _ _ _ _ _ _ _ _ ?h1_r25 ?h2_r25) ?k1_r25 ?k2_r25 ?k3_r25 ?k4_r25 ?k5_r25 ?kK_r25 ?kd_r25 ?ku_r25 ?ks_r25 ?_; (case k1_r25 => k_asm); (case k2_r25 => k_asm); (case k3_r25 => k_asm); (case k4_r25 => k_asm); (case k5_r25 => k_asm); (case kK_r25 => first | exact rfl | assumption); (case ks_r25 => k_subL); (case h1_r25 => assumption); (case h2_r25 => omega); (case kd_r25 => ktr_room); (case ku_r25 => ktr_units); k_whole); intro r9 new9 h9 tk9 P9 F9 N9 D9; obtain ⟨e9, e9x⟩ := P9; subst e9 e9x; (try simp only [List.nil_append] at N9); clear D9; (try dsimp only); (try k_fold))))
  k_with "eval ListComp" => ((k_here; (with_reducible show wpAny _ _ (eval (Expr.ListComp _ [⟨Expr.Name _ _, Expr.Tuple _ _ _, _, _⟩] _ _) _) _ _ _); k_dflt (refine ListComp_tup (F₀ := by k_asm) (by with_unfolding_all rfl) (by decide) (by rfl) (by decide) (by rfl) ?_)))
  k_with "eval ListComp" => ((k_here; (with_reducible show wpAny _ _ (eval (Expr.ListComp _ [⟨Expr.Tuple _ _ _, _, _, _⟩] _ _) _) _ _ _); k_dflt (refine LCp.ListComp_P (F₀ := by k_asm) (by with_unfolding_all rfl) (by decide) (by rfl) (by decide) (by rfl) (by rfl) (by decide) ?_)))
  k_with "SrcLP" => ((k_here; k_dflt (refine' told_times ?zh_r28 ?zF_r28 ?zN_r28 ?zm_r28 ?zT_r28 ?zn_r28 ?zk_r28 ?zl_r28 ?zd_r28 ?_; (case zh_r28 => rfl); (case zF_r28 => k_asm); (case zN_r28 => k_asm); (case zm_r28 => k_mem); (case zT_r28 => intro p hp; (repeat (first | exact hp | apply List.Mem.tail))); (case zn_r28 => exact told_len (by assumption) (by assumption)); (case zk_r28 => intro _; rfl); (case zl_r28 => intro _; rfl); (case zd_r28 => decide); intro g9)))
  k_with "SrcTup" => ((k_here; k_dflt (refine SrcTup.ledger (by rfl) (by k_asm) (by k_asm) (by k_mem) (by first | size_fits | exact Nat.le_of_ble_eq_true rfl) ?_; intro g'; lcg_lit)))
  k_with "CompRest" => ((with_unfolding_all first
  | (refine LCg.CompRest.succ ?_; intro v' I' oI' C' oC' D' m' h' tk' E' hv' hC' hx' F' N' off' ne'; (first | lcg_open hv' | (obtain ⟨t9', hv9'⟩ := hv'; subst hv9')))
  | refine LCg.CompRest.zero ?_))
  k_with "CompEnd" => ((k_dflt ((rename News _ _ _ _ => lN'); (rename LCg.Off3 _ _ _ _ => oX'); (refine' LCg.CompEnd.intro ?zF_r31 lN' _ ?zs_r31 oX' ?zr_r31 ?_; (case zF_r31 => assumption); (case zs_r31 => exact fun p hp => hp); (case zr_r31 => exact Or.inr ⟨_, by k_mem, rfl, _, rfl⟩)))))
  k_with "call type:list" => ((k_here; (with_reducible show wpAny _ _ (call (Value.type "list") [Value.ref _]) _ _ _); k_dflt (refine' list_vals ?zh_r32 ?zF_r32 ?zN_r32 ?zv_r32 ?zp_r32 ?zd_r32 ?z3_r32 ?_; (case zh_r32 => rfl); (case zF_r32 => k_asm); (case zN_r32 => k_asm); (case zv_r32 => k_mem); (case zp_r32 => k_mem); (case zd_r32 => assumption); (case z3_r32 => exact keys_len (AskOk.keys (by assumption))); intro B9 c9 h9 tk9 F9 N9)))
  k_with "binaryOp Add ref ref" => ((k_here; k_dflt (refine' add_two ?zF_r33 ?zN_r33 ?za_r33 ?zb_r33 ?z1_r33 ?z2_r33 ?_; (case zF_r33 => k_asm); (case zN_r33 => k_asm); (case za_r33 => k_mem); (case zb_r33 => k_mem); (case z1_r33 => (rw [List.length_map]; exact told_len (by assumption) (by assumption))); (case z2_r33 => (rw [List.length_map, kv_length]; exact keys_len (AskOk.keys (by assumption)))); intro B9 h9 F9 N9)))
  k_with "call builtin:max" => ((k_here; (with_reducible show wpAny _ _ (call (Value.builtin "max") [Value.ref _]) _ _ _); k_dflt (refine' max_told ?zh_r34 ?zF_r34 ?zN_r34 ?za_r34 ?zi_r34 ?zn_r34 ?_; (case zh_r34 => rfl); (case zF_r34 => k_asm); (case zN_r34 => k_asm); (case za_r34 => k_mem); (case zi_r34 => exact (ints_all _ (by assumption)).1); (case zn_r34 => exact (ints_all _ (by assumption)).2); intro h9 M9 t9 tk9 F9 N9; (replace N9 := news_drop4 N9))))
  k_with "compareOp NotEq ref ref" => ((k_here; k_dflt (refine' bools_ne ?zN_r35 ?za_r35 ?zb_r35 ?zu_r35 ?_; (case zN_r35 => k_asm); (case za_r35 => k_mem); (case zb_r35 => k_mem); (case zu_r35 => ktr_units))))
  k_with "compareOp NotEq int int" => ((with_reducible refine ne_same ?_))
  w_on
  o_law
  k_head
  (case hw => w_witness2)
  exact conv_walk (by
  k_go0
  all_goals (try k_fold)
  repeat' ((fail_if_success (with_reducible show wpAny _ _ (pyIter (Value.ref _)) _ _ _)); (first | (k_unfold; (try dsimp only)) | (k_end; wrow_close) | walk1 | (dsimp only; walk1) | (leave1; walk_say "STEP leave1"; try dsimp only) | fail "no step"))
  (rename Fr _ _ _ _ => lF')
  (rename News _ _ _ _ => lN')
  (rename IsRange _ _ _ _ _ _ _ _ => rgX)
  have lN2 := news_drop3 lN'
  k_dflt (with_unfolding_all refine' samples_loop ?xhh rgX ?xb1 ?xb3 lF' lN2 ?xU1 ?xU2 ?xeN ?xk0 ?xturn0 ?xturn ?xdone)
  case xhh => rfl
  case xb1 => omega
  case xb3 => omega
  case xU1 => exact (UpdF.tail (by k_ne) (UpdF.head (List.forall_mem_cons.mpr ⟨by k_ne, List.forall_mem_cons.mpr ⟨by k_ne, List.forall_mem_cons.mpr ⟨by k_ne, List.forall_mem_cons.mpr ⟨by k_ne, List.forall_mem_cons.mpr ⟨by k_ne, List.forall_mem_cons.mpr ⟨by k_ne, List.forall_mem_nil _⟩⟩⟩⟩⟩⟩)))
  case xU2 => exact (fun o => UpdF.tail (by k_ne) (UpdF.tail (by k_ne) (UpdF.head (List.forall_mem_cons.mpr ⟨by k_ne, List.forall_mem_cons.mpr ⟨by k_ne, List.forall_mem_cons.mpr ⟨by k_ne, List.forall_mem_cons.mpr ⟨by k_ne, List.forall_mem_cons.mpr ⟨by k_ne, List.forall_mem_nil _⟩⟩⟩⟩⟩))))
  case xeN => exact rfl
  case xk0 => omega
  case xturn0 =>
    clear lF' lN' lN2
    intro t9 h9 tk9 I9 oI9 hlt9 F9 N9
    (k_lt hlt9)
    (try dsimp only at N9)
    repeat' ((fail_if_success (with_reducible show SPost _ _ _ _ _ _ _ _ _ _ _ _ _ _ _ _ _ _)); (first | (k_unfold; (try dsimp only)) | (k_end; wrow_close) | walk1 | (dsimp only; walk1) | (leave1; walk_say "STEP leave1"; try dsimp only) | fail "no step"))
    (refine' sPost_next ?xF ?xN ?xh1 ?xh2 ?xh3 ?xh4 ?xh5; (case xF => assumption); (case xN => (rename News _ _ _ _ => lN'); exact lN'); (case xh1 => (try dsimp only); exact SubL.mem (by k_subL)); (case xh2 => k_mem); (case xh3 => (intro y hy; first | rfl | (simp only [if_neg hy]))); (case xh4 => omega); (case xh5 => exact samp_first (by omega) (by omega) _ _))
  case xturn =>
    clear lF' lN' lN2
    intro g91 g92 g93 g94 g95 g96 k9 t9 h9 tk9 I9 oI9 la9 le9 s89 v49 q91 q92 q93 q94 fa9 q95 kb9 tb9 hlt9 hkb9 hsm9 F9 N9
    (k_lt hlt9)
    (try dsimp only at N9)
    repeat' ((fail_if_success (with_reducible show SPost _ _ _ _ _ _ _ _ _ _ _ _ _ _ _ _ _ _)); (first | (k_unfold; (try dsimp only)) | (k_end; wrow_close) | walk1 | (dsimp only; walk1) | (leave1; walk_say "STEP leave1"; try dsimp only) | fail "no step"))
    (refine' sPost_next ?xF ?xN ?xh1 ?xh2 ?xh3 ?xh4 ?xh5; (case xF => assumption); (case xN => (rename News _ _ _ _ => lN'); exact lN'); (case xh1 => (try dsimp only); exact SubL.mem (by k_subL)); (case xh2 => k_mem); (case xh3 => (intro y hy; first | rfl | (simp only [if_neg hy]))); (case xh4 => omega); (case xh5 => (refine' samp_next ?xz1 ?xz2 hsm9 ?xz3 ?xz4; (case xz3 => assumption); (case xz4 => assumption); (case xz1 => omega); (case xz2 => omega))))
  case xdone =>
    clear lF' lN' lN2 rgX
    intro g91 g92 g93 g94 g95 g96 u9 h9 tk9 la9 le9 s89 v49 q91 q92 q93 q94 fa9 q95 kb9 tb9 hkb9 hsm9 F9 N9
    (try dsimp only at N9)
    repeat' ((fail_if_success (with_reducible show wpAny _ _ (pyIter (Value.ref _)) _ _ _)); (first | (k_unfold; (try dsimp only)) | (k_end; wrow_close) | walk1 | (dsimp only; walk1) | (leave1; walk_say "STEP leave1"; try dsimp only) | fail "no step"))
    (rename Fr _ _ _ _ => lF')
    (rename News _ _ _ _ => lN')
    (rename IsRange _ _ _ _ _ _ _ _ => rgX)
    have lN2 := news_drop1 lN'
    k_dflt (with_unfolding_all refine' bouts_loop ?xhh rgX ?xb1 ?xb3 lF' lN2 ?xU1 ?xU2 ?xU3 ?xU4 ?xeN ?xk0 hsm9 ?xhc ?xhn ?xturn ?xdone)
    case xhh => rfl
    case xb1 => omega
    case xb3 => omega
    case xU1 => exact (UpdF.tail (by k_ne) (UpdF.head (List.forall_mem_cons.mpr ⟨by k_ne, List.forall_mem_cons.mpr ⟨by k_ne, List.forall_mem_cons.mpr ⟨by k_ne, List.forall_mem_cons.mpr ⟨by k_ne, List.forall_mem_cons.mpr ⟨by k_ne, List.forall_mem_cons.mpr ⟨by k_ne, List.forall_mem_cons.mpr ⟨by k_ne, List.forall_mem_cons.mpr ⟨by k_ne, List.forall_mem_nil _⟩⟩⟩⟩⟩⟩⟩⟩)))
    case xU2 => exact (fun a => UpdF.tail (by k_ne) (UpdF.tail (by k_ne) (UpdF.tail (by k_ne) (UpdF.head (List.forall_mem_cons.mpr ⟨by k_ne, List.forall_mem_cons.mpr ⟨by k_ne, List.forall_mem_cons.mpr ⟨by k_ne, List.forall_mem_cons.mpr ⟨by k_ne, List.forall_mem_cons.mpr ⟨by k_ne, List.forall_mem_cons.mpr ⟨by k_ne, List.forall_mem_nil _⟩⟩⟩⟩⟩⟩)))))
    case xU3 => exact (fun a b => UpdF.tail (by k_ne) (UpdF.tail (by k_ne) (UpdF.tail (by k_ne) (UpdF.tail (by k_ne) (UpdF.head (List.forall_mem_cons.mpr ⟨by k_ne, List.forall_mem_cons.mpr ⟨by k_ne, List.forall_mem_cons.mpr ⟨by k_ne, List.forall_mem_cons.mpr ⟨by k_ne, List.forall_mem_cons.mpr ⟨by k_ne, List.forall_mem_nil _⟩⟩⟩⟩⟩))))))
    case xU4 => exact (fun a b c => UpdF.tail (by k_ne) (UpdF.tail (by k_ne) (UpdF.tail (by k_ne) (UpdF.tail (by k_ne) (UpdF.tail (by k_ne) (UpdF.tail (by k_ne) (UpdF.tail (by k_ne) (UpdF.head (List.forall_mem_cons.mpr ⟨by k_ne, List.forall_mem_cons.mpr ⟨by k_ne, List.forall_mem_nil _⟩⟩)))))))))
    case xeN => exact rfl
    case xk0 => omega
    case xhc => assumption
    case xhn => exact rfl
    case xdone =>
      clear lF' lN' lN2 rgX
      intro m9 h9 tk9 nx9 F9 N9
      (first | (k_unfold; (try dsimp only)) | (k_end; wrow_close) | walk1 | (dsimp only; walk1) | (leave1; walk_say "STEP leave1"; try dsimp only) | fail "no step")
      (first | (k_unfold; (try dsimp only)) | (k_end; wrow_close) | walk1 | (dsimp only; walk1) | (leave1; walk_say "STEP leave1"; try dsimp only) | fail "no step")
      (first | (k_unfold; (try dsimp only)) | (k_end; wrow_close) | walk1 | (dsimp only; walk1) | (leave1; walk_say "STEP leave1"; try dsimp only) | fail "no step")
      dsimp only
      k_unfold
      exact law_end (by with_reducible assumption) (by with_reducible assumption)
    case xturn =>
      clear lF' lN' lN2 rgX hkb9 hsm9
      intro y91 y92 y93 y94 i9 t9 h9 tk9 I9 oI9 ua9 us9 ut9 uw9 ue9 ul9 nw9 tn9 sv9 la9 le9 s89 v49 q91 q92 q93 q94 fa9 q95 kb9 tb9 oC9 v09 hi9 hlt9 hkb9 hsm9 hoc9 F9 N9
      (k_lt hlt9)
      (try dsimp only at N9)
      repeat' ((fail_if_success (with_reducible show wpAny _ _ (eval (Expr.IfExp _ _ _ _) _) _ _ _)); (first | (k_unfold; (try dsimp only)) | (k_end; wrow_close) | walk1 | (dsimp only; walk1) | (leave1; walk_say "STEP leave1"; try dsimp only) | fail "no step"))
      k_dflt (with_unfolding_all refine' stop_join ?xF ?xN ?xU ?xo ?xval ?xcont)
      case xF => k_asm
      case xN => k_asm
      case xU => exact (UpdF.tail (by k_ne) (UpdF.tail (by k_ne) (UpdF.tail (by k_ne) (UpdF.tail (by k_ne) (UpdF.tail (by k_ne) (UpdF.tail (by k_ne) (UpdF.head (List.forall_mem_cons.mpr ⟨by k_ne, List.forall_mem_cons.mpr ⟨by k_ne, List.forall_mem_cons.mpr ⟨by k_ne, List.forall_mem_cons.mpr ⟨by k_ne, List.forall_mem_cons.mpr ⟨by k_ne, List.forall_mem_nil _⟩⟩⟩⟩⟩))))))))
      case xo => exact ⟨_, _, rfl⟩
      case xval =>
        repeat' ((fail_if_success (with_reducible show StopPost _ _ _ _ _ _ _ _ _)); (first | (k_unfold; (try dsimp only)) | (k_end; wrow_close) | walk1 | (dsimp only; walk1) | (leave1; walk_say "STEP leave1"; try dsimp only) | fail "no step"))
        all_goals (refine' stopPost_of ?xh0 ?xh9 ?xF ?xN ?xsub ?xhk; (case xF => assumption); (case xN => (rename News _ _ _ _ => lN'); exact lN'); (case xh0 => omega); (case xh9 => omega); (case xsub => (try dsimp only); exact SubL.mem (by k_subL)); (case xhk => omega))
      case xcont =>
        intro st9 t9 h9 tk9 kb9 tb9 hst9 F9 N9 hkb9
        (try dsimp only at N9)
        repeat' ((fail_if_success (with_reducible show wpAny _ _ (execs [PySem.Stmt.Assign [PySem.Expr.Name (Str.ofString "wait") _] _ _, _, _, _, _, _] _) _ _ _)); (first | (k_unfold; (try dsimp only)) | (k_end; wrow_close) | walk1 | (dsimp only; walk1) | (leave1; walk_say "STEP leave1"; try dsimp only) | fail "no step"))
        (rename Fr _ _ _ _ => lF')
        (rename News _ _ _ _ => lN')
        refine' cut_tail lF' lN' ?xfront ?xtail
        case xfront =>
          repeat' ((fail_if_success (with_reducible show CutPost _ _ _ _ _ _ _)); (first | (k_unfold; (try dsimp only)) | (k_end; wrow_close) | walk1 | (dsimp only; walk1) | (leave1; walk_say "STEP leave1"; try dsimp only) | fail "no step"))
          all_goals (refine' cutPost ?xzF ?xzN ?xzs; (case xzF => with_reducible assumption); (case xzN => with_reducible assumption); (case xzs => (intro q hq; (first | ((repeat (first | (with_reducible_and_instances exact hq) | apply List.Mem.tail)); done) | ((repeat (first | exact hq | apply List.Mem.tail)); done)))))
        case xtail =>
          clear lF' lN'
          intro wv9 ev9 h9 tk9 F9 N9
          (try dsimp only at N9)
          repeat' ((fail_if_success (with_reducible show BPost _ _ _ _ _ _ _ _ _ _ _ _ _ _ _ _ _ _ _ _ _ _ _ _ _ _ _ _ _)); (first | (k_unfold; (try dsimp only)) | (k_end; wrow_close) | walk1 | (dsimp only; walk1) | (leave1; walk_say "STEP leave1"; try dsimp only) | fail "no step"))
          all_goals first | (exfalso; omega) | (refine' bPost_next ?xzF ?xzN ?xz1 ?xz2 ?xz3 ?xz4 ?xz5 ?xz6 ?xz7 ?xz8; (case xzF => assumption); (case xzN => (rename News _ _ _ _ => lN'); exact lN'); (case xz1 => (try dsimp only); exact SubL.mem (by k_subL)); (case xz2 => k_mem); (case xz3 => (intro y n0 n1 n2 n3 n4 n5 n6 n7; simp only [if_neg n0, if_neg n1, if_neg n2, if_neg n3, if_neg n4, if_neg n5, if_neg n6, if_neg n7])); (case xz4 => exact rfl); (case xz5 => omega); (case xz6 => first | assumption | (refine' samp_next ?xy1 ?xy2 hsm9 ?xy3 ?xy4; (case xy3 => assumption); (case xy4 => assumption); (case xy1 => omega); (case xy2 => omega))); (case xz7 => assumption); (case xz8 => (intro hz; first | rfl | (exfalso; omega))))
  )
end Mine
end
theorem PySem.Challenge.cw_sj0109_01_holds : PySem.Challenge.rw_sj0109_01.Holds := by
  exact Mine.law_t
