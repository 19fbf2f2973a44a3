import PyProof.Rows.All
import Wide.All
import OpenK.AllK
import Wide.FinOn
import PySem.Challenge.RW_nz0089_01
open PySem PySem.W PyProof.Rows
set_option Elab.async false
set_option maxRecDepth 100000
set_option maxHeartbeats 8000000
set_option linter.all false
set_option rowWalk.seconds 0
set_option compiler.extract_closed false
namespace Mine
-- The head's run lays a twin of each of its constants (hd.twHASH, and an equation hd.teHASH whose proof is quadratic in size). A name that is taken keeps it from that; so the names stand here.
theorem hd.tw10111801491309104144 : True := trivial
theorem hd.tw1011335219593555734 : True := trivial
theorem hd.tw10170382586518783626 : True := trivial
theorem hd.tw10258225898301398825 : True := trivial
theorem hd.tw10258999931320997221 : True := trivial
theorem hd.tw10296555574160606952 : True := trivial
theorem hd.tw10390121572340787421 : True := trivial
theorem hd.tw10458740792067480800 : True := trivial
theorem hd.tw1056854343340324079 : True := trivial
theorem hd.tw10601615944963115059 : True := trivial
theorem hd.tw10792051664901133789 : True := trivial
theorem hd.tw1097998534492414930 : True := trivial
theorem hd.tw11117797201346649052 : True := trivial
theorem hd.tw11210553801493137410 : True := trivial
theorem hd.tw11232374478483605306 : True := trivial
theorem hd.tw11319097763535126812 : True := trivial
theorem hd.tw11387694631328260470 : True := trivial
theorem hd.tw11465210709893060100 : True := trivial
theorem hd.tw11660266114150955751 : True := trivial
theorem hd.tw11893437276241958245 : True := trivial
theorem hd.tw11953376511379268794 : True := trivial
theorem hd.tw11959044307898795358 : True := trivial
theorem hd.tw12023040214023829324 : True := trivial
theorem hd.tw12070051907170230399 : True := trivial
theorem hd.tw12173100003817136821 : True := trivial
theorem hd.tw12271959270614036898 : True := trivial
theorem hd.tw12451258846644117672 : True := trivial
theorem hd.tw12487502673411948298 : True := trivial
theorem hd.tw12598724348716800887 : True := trivial
theorem hd.tw12797040952259185971 : True := trivial
theorem hd.tw12901994302517312135 : True := trivial
theorem hd.tw13181220554201973888 : True := trivial
theorem hd.tw13225837485096350037 : True := trivial
theorem hd.tw13267510147771200024 : True := trivial
theorem hd.tw13330244855972007585 : True := trivial
theorem hd.tw13437302318768402701 : True := trivial
theorem hd.tw13753220567063992666 : True := trivial
theorem hd.tw13770079208771991547 : True := trivial
theorem hd.tw13825509269061658866 : True := trivial
theorem hd.tw13828106393651249627 : True := trivial
theorem hd.tw14015909994521340511 : True := trivial
theorem hd.tw14103535550066685397 : True := trivial
theorem hd.tw1413172679324656950 : True := trivial
theorem hd.tw14168552714766633299 : True := trivial
theorem hd.tw14246236162039180721 : True := trivial
theorem hd.tw14620637471214046174 : True := trivial
theorem hd.tw15040182064412255696 : True := trivial
theorem hd.tw15114108414909977919 : True := trivial
theorem hd.tw15153279154761372571 : True := trivial
theorem hd.tw15527848837575444561 : True := trivial
theorem hd.tw15595854959937240912 : True := trivial
theorem hd.tw15616948245753086127 : True := trivial
theorem hd.tw15759970867653108152 : True := trivial
theorem hd.tw15833661619300960221 : True := trivial
theorem hd.tw15890378047532165470 : True := trivial
theorem hd.tw15967140613478806237 : True := trivial
theorem hd.tw1600037746751723098 : True := trivial
theorem hd.tw16037735763661986305 : True := trivial
theorem hd.tw16091413853298234908 : True := trivial
theorem hd.tw16222499966895952523 : True := trivial
theorem hd.tw16259696140248634718 : True := trivial
theorem hd.tw16345102440705955213 : True := trivial
theorem hd.tw16432713993328977331 : True := trivial
theorem hd.tw16477043939570097188 : True := trivial
theorem hd.tw16479060276630152177 : True := trivial
theorem hd.tw16634568088961857937 : True := trivial
theorem hd.tw16828841361933241965 : True := trivial
theorem hd.tw16945582573551092051 : True := trivial
theorem hd.tw17054507655720011243 : True := trivial
theorem hd.tw17061077104543960549 : True := trivial
theorem hd.tw17087091549796120035 : True := trivial
theorem hd.tw17177331786930743035 : True := trivial
theorem hd.tw17397052962432165270 : True := trivial
theorem hd.tw17466564637892440618 : True := trivial
theorem hd.tw17574625026820762457 : True := trivial
theorem hd.tw17650839729002327288 : True := trivial
theorem hd.tw17673860158736603733 : True := trivial
theorem hd.tw17681399029576232318 : True := trivial
theorem hd.tw17808607793243039243 : True := trivial
theorem hd.tw17950676927832955104 : True := trivial
theorem hd.tw18300207936620678264 : True := trivial
theorem hd.tw18322514126500204803 : True := trivial
theorem hd.tw18350433093344046624 : True := trivial
theorem hd.tw1860674893733999873 : True := trivial
theorem hd.tw1997569388931296116 : True := trivial
theorem hd.tw2068664650715991707 : True := trivial
theorem hd.tw2114630138375439770 : True := trivial
theorem hd.tw2195365466389143174 : True := trivial
theorem hd.tw2605216425844631887 : True := trivial
theorem hd.tw2930668341846507884 : True := trivial
theorem hd.tw3229955645248102723 : True := trivial
theorem hd.tw3451239065008710300 : True := trivial
theorem hd.tw3493717111155160527 : True := trivial
theorem hd.tw3530705653197291679 : True := trivial
theorem hd.tw3571134770919094901 : True := trivial
theorem hd.tw3646829019195819677 : True := trivial
theorem hd.tw4086058157674990017 : True := trivial
theorem hd.tw4115565904173853331 : True := trivial
theorem hd.tw4225703048834024713 : True := trivial
theorem hd.tw4272726840584523970 : True := trivial
theorem hd.tw4278124947684190350 : True := trivial
theorem hd.tw4325921153153474475 : True := trivial
theorem hd.tw4402725079659364252 : True := trivial
theorem hd.tw4478166936697009375 : True := trivial
theorem hd.tw4494801613693538912 : True := trivial
theorem hd.tw4845836938831722396 : True := trivial
theorem hd.tw5148922909946612681 : True := trivial
theorem hd.tw5190246844813560578 : True := trivial
theorem hd.tw5373601922739893978 : True := trivial
theorem hd.tw5461583852855630226 : True := trivial
theorem hd.tw54727356038600574 : True := trivial
theorem hd.tw5511420028821071320 : True := trivial
theorem hd.tw5567388512258382067 : True := trivial
theorem hd.tw5961118342813265553 : True := trivial
theorem hd.tw5978321128707920903 : True := trivial
theorem hd.tw6060742912462422084 : True := trivial
theorem hd.tw6082411064634330575 : True := trivial
theorem hd.tw6196171512934965099 : True := trivial
theorem hd.tw6276725880618359904 : True := trivial
theorem hd.tw6293948785866598258 : True := trivial
theorem hd.tw6305734824756694309 : True := trivial
theorem hd.tw6407587892757256292 : True := trivial
theorem hd.tw6409707207589635457 : True := trivial
theorem hd.tw6411954120941647267 : True := trivial
theorem hd.tw6442067068224118133 : True := trivial
theorem hd.tw6555240042291301478 : True := trivial
theorem hd.tw6663896369628448293 : True := trivial
theorem hd.tw6785817131721698500 : True := trivial
theorem hd.tw6820862383352777685 : True := trivial
theorem hd.tw6892424819385984264 : True := trivial
theorem hd.tw701787995468756871 : True := trivial
theorem hd.tw7028611270464810887 : True := trivial
theorem hd.tw7109450275434161582 : True := trivial
theorem hd.tw7296583596125217682 : True := trivial
theorem hd.tw7305227366249400316 : True := trivial
theorem hd.tw7345208892882624808 : True := trivial
theorem hd.tw7540655947842036084 : True := trivial
theorem hd.tw7752767780024739350 : True := trivial
theorem hd.tw7754304195085646258 : True := trivial
theorem hd.tw8086110750863094267 : True := trivial
theorem hd.tw8226494294326810461 : True := trivial
theorem hd.tw8268277133935991078 : True := trivial
theorem hd.tw8364274539379898114 : True := trivial
theorem hd.tw8414420238210853183 : True := trivial
theorem hd.tw8457440626546761165 : True := trivial
theorem hd.tw8458067239894703972 : True := trivial
theorem hd.tw8841187974860818712 : True := trivial
theorem hd.tw8959176491354863721 : True := trivial
theorem hd.tw9170477692918782315 : True := trivial
theorem hd.tw922143313871775805 : True := trivial
theorem hd.tw9277588360372424766 : True := trivial
theorem hd.tw9641152695372364146 : True := trivial
theorem hd.tw9673543361469618366 : True := trivial
theorem hd.tw978945382295711627 : True := trivial
theorem hd.tw9960721518486171458 : True := trivial
-- this run is for the constants that it lays (hd.heap_1_1, hd.view_1_2): the walk is stated over them; Mine.main runs the head again and proves the claim
set_option Elab.async true in
theorem hd : True := by
  refine (?f : (PySem.Challenge.rw_nz0089_01.row.wellSaid = true → PySem.Challenge.rw_nz0089_01.row.Holds) → True) ?a
  case f => exact fun _ => trivial
  intro said
  w_on; k_head; (case hw => w_witness2)
  guard_expr ?x = ?x
  refine ?x
theorem hdWait : hd.heap_1_1 = hd.heap_1_1 := rfl
end Mine
-- my lines for the walk are given by k_with (the theorems named lines..); they are asked first
local macro_rules | `(tactic| walk_at $s:str) => `(tactic| k_extra $s)
section
open PySem PySem.W PyProof.Rows PySem.Calls
set_option maxRecDepth 100000
set_option maxHeartbeats 8000000
namespace Mine
theorem sectBase : True := by
  w_top off
  k_with_none
  trivial

abbrev PR : Program := PySem.Challenge.rw_nz0089_01.row.prog

/-- what a body has done when it ends -/
def Done (g : Heap) (s : Shared) (R : Heap → Value → Heap → Prop) (v : Value) (s' : Shared) : Prop :=
  ∃ h' tk', s' = { s with heap := h', toks := tk' } ∧ (∀ b o, g.get? b = some o → h'.get? b = some o) ∧ R g v h'
theorem Done.intro {g h' : Heap} {s : Shared} {tk' : Nat} {L : Addr} {m : Str → Option Value} {R : Heap → Value → Heap → Prop} {v : Value} (F : Fr g L h' m) (r : R g v h') :
    Done g s R v { s with heap := h', toks := tk' } := ⟨h', tk', rfl, F.keep, r⟩

/-- a contract of a def of the text -/
def Cl (w : World) (mean : ExcName → Option Value) (mg mb : Str → Option Value) (D : Nat) (f : Addr) (vs : List Value) (pre : Heap → Prop) (R : Heap → Value → Heap → Prop) : Prop :=
  ∀ (dp un : Nat) (gd : Option (List Code)) (cn : Str) (cs : Scope) (a : Addr) (ccd : Value) (cl : List (Str × Addr)) (outer : List Env) (A₀ : Around) (base h₀ : Heap) (L : Addr) (m : Str → Option Value) (news : List (Addr × Obj)) (s : Shared) (Q E : Value → Shared → Prop),
    Below A₀ base outer h₀ → Fr h₀ L s.heap m → (hd.heap_1_1 w.params).In h₀ → News h₀ L s.heap news → Top hd.view_1_2 (looseW hd.view_1_2 []) mean mg mb h₀ → cs.kind = .function → dp + D < recursionLimit → un + 3 * D + 8 < cLine → pre s.heap →
    (∀ v h' tk', Fr h₀ L h' m → News h₀ L h' news → (∀ b o, s.heap.get? b = some o → h'.get? b = some o) → R s.heap v h' → Q v { s with heap := h', toks := tk' }) →
    wpAny (model PR w) (ktrTop dp un gd cn cs L a ccd cl outer) (call (.ref f) vs) Q E s

theorem kst_lookup : ∀ (l : List (Str × Value)) (y : Str), l.lookup y = kstB (fun _ => none) l y
  | [], _ => rfl
  | p :: r, y => by
    show (match y == p.1 with | true => some p.2 | false => r.lookup y) = if y = p.1 then some p.2 else kstB (fun _ => none) r y
    by_cases h : y = p.1
    · rw [if_pos h, beq_iff_eq.mpr h]
    · rw [if_neg h, beq_eq_false_iff_ne.mpr h]; exact kst_lookup r y
theorem cl_of {w : World} {mean : ExcName → Option Value} {mg mb : Str → Option Value} {D : Nat} {f : Addr} {vs : List Value} {pre : Heap → Prop} {R : Heap → Value → Heap → Prop}
    {name : Str} {params : Arguments} {body : List Stmt} {scope : Scope} {dV kV doc pm cdv ct oc : Value} {an od : Option Addr} {osl : Array (Option Value)} {binds : List (Str × Value)}
    (ho : (hd.heap_1_1 w.params).lookup f = some ⟨oc, od, .func (fnOf name name params body scope dV kV doc pm an cdv ct), osl⟩) (hcd : codeIn (hd.heap_1_1 w.params) cdv name = true)
    (hbind : ∀ s, BindsTo s (fnOf name name params body scope dV kV doc pm an cdv ct) ⟨vs, []⟩ binds) (hloc : ∀ y ∈ binds, scope.names.lookup y.1 = some .local)
    (hcell : ∀ x ∈ scope.names, x.2 ≠ .cell) (hco : scope.isCoroutine = false) (hgen : scope.isGenerator = false) (hk : scope.kind = .function)
    (h : ∀ (dp un : Nat) (gd : Option (List Code)) (outer : List Env) (A₀ : Around) (base g : Heap) (L : Addr) (h₁ : Heap) (s : Shared),
      Below A₀ base outer g → Fr g L h₁ (kstB (fun _ => none) binds.reverse) → (hd.heap_1_1 w.params).In g → News g L h₁ [] → Top hd.view_1_2 (looseW hd.view_1_2 []) mean mg mb g →
      dp + D < recursionLimit + 1 → un + 3 * D + 8 < cLine + 3 → 0 < D → pre g → s.heap = h₁ →
      wpAny (model PR w) (ktrTop dp un gd name scope L f cdv [] outer) (execs body (envOf name scope L f cdv))
        (fun fl s' => Done g s R (match fl with | .ret v => v | _ => .none) s') (fun _ _ => False) s)
    (hD : 0 < D := by decide) : Cl w mean mg mb D f vs pre R := by
  intro dp un gd cn cs a ccd cl outer A₀ base h₀ L m news s Q E B F X₀ N T hck hdp hun hpre hret
  refine wpAny_call ?_
  obtain ⟨FG, BG, st, _⟩ := groundX (A := ktrTop dp un gd cn cs L a ccd cl outer) (env := envX cn cs L a ccd cl) (R := fun _ _ => True) B F News.nil rfl rfl hck
  refine codeAny_call_def (fd := fnOf name name params body scope dV kV doc pm an cdv ct) (body := body) (binds := binds) (by show dp < recursionLimit; omega) ((X₀.keeps F.keep) _ _ ho) rfl (T.nolimit.keeps F.keep) (codeRec_of (X₀.keeps F.keep) hcd) rfl (hbind _) hcell hloc (fun h₁ hns hk₁ => ?_) hco hgen hk
  have FG' : Fr s.heap s.heap.objs.size h₁ (kstB (fun _ => none) binds.reverse) := by
    have e : (fun y => binds.reverse.lookup y) = kstB (fun _ => none) binds.reverse := funext fun y => kst_lookup _ y
    exact e ▸ (⟨hns, hk₁, Nat.le_refl _⟩ : Fr s.heap s.heap.objs.size h₁ (fun y => binds.reverse.lookup y))
  refine wpAny_mono (h (dp + 1) (un + 3) gd (envX cn cs L a ccd cl :: outer) _ base s.heap s.heap.objs.size h₁ { s with heap := h₁, toks := s.toks + binds.length } BG FG' (X₀.keeps F.keep) News.nil (T.keeps F.keep) (by omega) (by omega) hD hpre rfl) (fun fl s' hl => ?_) fun _ _ x => x.elim
  obtain ⟨h', tk', rfl, hkp, hR⟩ := hl
  obtain ⟨oL, es, ep, hL, r⟩ := F.ns
  exact hret _ h' tk' ⟨⟨oL, es, ep, hkp _ _ hL, r⟩, fun b o e => hkp _ _ (F.keep _ _ e), F.above⟩ (fun p hp => ⟨hkp _ _ (N p hp).1, (N p hp).2⟩) hkp hR
theorem Cl.use {w : World} {mean : ExcName → Option Value} {mg mb : Str → Option Value} {D : Nat} {f : Addr} {vs : List Value} {pre : Heap → Prop} {R : Heap → Value → Heap → Prop} (C : Cl w mean mg mb D f vs pre R)
    {dp un : Nat} {gd : Option (List Code)} {cn : Str} {cs : Scope} {a : Addr} {ccd : Value} {cl : List (Str × Addr)} {outer : List Env} {A₀ : Around} {base h₀ : Heap} {L : Addr} {m : Str → Option Value} {news : List (Addr × Obj)} {s : Shared} {Q E : Value → Shared → Prop}
    (k1 : Below A₀ base outer h₀) (k2 : Fr h₀ L s.heap m) (k3 : (hd.heap_1_1 w.params).In h₀) (k4 : News h₀ L s.heap news) (k5 : Top hd.view_1_2 (looseW hd.view_1_2 []) mean mg mb h₀) (kK : cs.kind = .function) (kd : dp + D < recursionLimit) (ku : un + 3 * D + 8 < cLine) (kp : pre s.heap)
    (kR : ∀ v h' tk', Fr h₀ L h' m → News h₀ L h' news → (∀ b o, s.heap.get? b = some o → h'.get? b = some o) → R s.heap v h' → Q v { s with heap := h', toks := tk' }) :
    wpAny (model PR w) (ktrTop dp un gd cn cs L a ccd cl outer) (call (.ref f) vs) Q E s := C _ _ _ _ _ _ _ _ _ _ _ _ _ _ _ _ _ _ k1 k2 k3 k4 k5 kK kd ku kp kR
theorem my_at (f : Nat) {M : Model} {A : Around} {vs : List Value} {Q E : Value → Shared → Prop} {s : Shared} (h : wpAny M A (call (.ref f) vs) Q E s) : wpAny M A (call (.ref f) vs) Q E s := h
-- the same rule with what comes back taken apart: the walk's terms stay small
theorem Cl.useP {w : World} {mean : ExcName → Option Value} {mg mb : Str → Option Value} {D : Nat} {f : Addr} {vs : List Value} {pre : Heap → Prop} {R : Heap → Value → Heap → Prop} (C : Cl w mean mg mb D f vs pre (R))
    {dp un : Nat} {gd : Option (List Code)} {cn : Str} {cs : Scope} {a : Addr} {ccd : Value} {cl : List (Str × Addr)} {outer : List Env} {A₀ : Around} {base h₀ : Heap} {L : Addr} {m : Str → Option Value} {news : List (Addr × Obj)} {s : Shared} {Q E : Value → Shared → Prop}
    (k1 : Below A₀ base outer h₀) (k2 : Fr h₀ L s.heap m) (k3 : (hd.heap_1_1 w.params).In h₀) (k4 : News h₀ L s.heap news) (k5 : Top hd.view_1_2 (looseW hd.view_1_2 []) mean mg mb h₀) (kK : cs.kind = .function) (kd : dp + D < recursionLimit) (ku : un + 3 * D + 8 < cLine) (kp : pre s.heap)
    (kR : ∀ v h' tk', Fr h₀ L h' m → News h₀ L h' news → R s.heap v h' → Q v { s with heap := h', toks := tk' }) :
    wpAny (model PR w) (ktrTop dp un gd cn cs L a ccd cl outer) (call (.ref f) vs) Q E s :=
  C.use k1 k2 k3 k4 k5 kK kd ku kp fun v h' tk' F N _ r => kR v h' tk' F N r
theorem Cl.useV {w : World} {mean : ExcName → Option Value} {mg mb : Str → Option Value} {D : Nat} {f : Addr} {vs : List Value} {pre : Heap → Prop} {X : Value} (C : Cl w mean mg mb D f vs pre (fun _ v _ => v = X))
    {dp un : Nat} {gd : Option (List Code)} {cn : Str} {cs : Scope} {a : Addr} {ccd : Value} {cl : List (Str × Addr)} {outer : List Env} {A₀ : Around} {base h₀ : Heap} {L : Addr} {m : Str → Option Value} {news : List (Addr × Obj)} {s : Shared} {Q E : Value → Shared → Prop}
    (k1 : Below A₀ base outer h₀) (k2 : Fr h₀ L s.heap m) (k3 : (hd.heap_1_1 w.params).In h₀) (k4 : News h₀ L s.heap news) (k5 : Top hd.view_1_2 (looseW hd.view_1_2 []) mean mg mb h₀) (kK : cs.kind = .function) (kd : dp + D < recursionLimit) (ku : un + 3 * D + 8 < cLine) (kp : pre s.heap)
    (kR : ∀ h' tk', Fr h₀ L h' m → News h₀ L h' news → Q X { s with heap := h', toks := tk' }) :
    wpAny (model PR w) (ktrTop dp un gd cn cs L a ccd cl outer) (call (.ref f) vs) Q E s :=
  C.use k1 k2 k3 k4 k5 kK kd ku kp fun _ h' tk' F N _ r => r ▸ kR h' tk' F N
theorem Cl.useS {w : World} {mean : ExcName → Option Value} {mg mb : Str → Option Value} {D : Nat} {f : Addr} {vs : List Value} {pre : Heap → Prop} {K : Tok → Value} (C : Cl w mean mg mb D f vs pre (fun _ v _ => ∃ t, v = K t))
    {dp un : Nat} {gd : Option (List Code)} {cn : Str} {cs : Scope} {a : Addr} {ccd : Value} {cl : List (Str × Addr)} {outer : List Env} {A₀ : Around} {base h₀ : Heap} {L : Addr} {m : Str → Option Value} {news : List (Addr × Obj)} {s : Shared} {Q E : Value → Shared → Prop}
    (k1 : Below A₀ base outer h₀) (k2 : Fr h₀ L s.heap m) (k3 : (hd.heap_1_1 w.params).In h₀) (k4 : News h₀ L s.heap news) (k5 : Top hd.view_1_2 (looseW hd.view_1_2 []) mean mg mb h₀) (kK : cs.kind = .function) (kd : dp + D < recursionLimit) (ku : un + 3 * D + 8 < cLine) (kp : pre s.heap)
    (kR : ∀ h' tk', Fr h₀ L h' m → News h₀ L h' news → ∀ t, Q (K t) { s with heap := h', toks := tk' }) :
    wpAny (model PR w) (ktrTop dp un gd cn cs L a ccd cl outer) (call (.ref f) vs) Q E s :=
  C.use k1 k2 k3 k4 k5 kK kd ku kp fun _ h' tk' F N _ ⟨t, r⟩ => r ▸ kR h' tk' F N t
theorem Cl.useN {w : World} {mean : ExcName → Option Value} {mg mb : Str → Option Value} {D : Nat} {f : Addr} {vs : List Value} {pre : Heap → Prop} {P : Nat → Prop} (C : Cl w mean mg mb D f vs pre (fun _ v _ => ∃ (n : Nat) (t : Tok), v = .int (n : Int) t ∧ P n))
    {dp un : Nat} {gd : Option (List Code)} {cn : Str} {cs : Scope} {a : Addr} {ccd : Value} {cl : List (Str × Addr)} {outer : List Env} {A₀ : Around} {base h₀ : Heap} {L : Addr} {m : Str → Option Value} {news : List (Addr × Obj)} {s : Shared} {Q E : Value → Shared → Prop}
    (k1 : Below A₀ base outer h₀) (k2 : Fr h₀ L s.heap m) (k3 : (hd.heap_1_1 w.params).In h₀) (k4 : News h₀ L s.heap news) (k5 : Top hd.view_1_2 (looseW hd.view_1_2 []) mean mg mb h₀) (kK : cs.kind = .function) (kd : dp + D < recursionLimit) (ku : un + 3 * D + 8 < cLine) (kp : pre s.heap)
    (kR : ∀ h' tk', Fr h₀ L h' m → News h₀ L h' news → ∀ (n : Nat) (t : Tok), P n → Q (.int (n : Int) t) { s with heap := h', toks := tk' }) :
    wpAny (model PR w) (ktrTop dp un gd cn cs L a ccd cl outer) (call (.ref f) vs) Q E s :=
  C.use k1 k2 k3 k4 k5 kK kd ku kp fun _ h' tk' F N _ ⟨n, t, r, q⟩ => r ▸ kR h' tk' F N n t q
theorem Cl.useY {w : World} {mean : ExcName → Option Value} {mg mb : Str → Option Value} {D : Nat} {f : Addr} {vs : List Value} {pre : Heap → Prop} {P : Str → Prop} (C : Cl w mean mg mb D f vs pre (fun _ v _ => ∃ y t, v = .str y t ∧ P y))
    {dp un : Nat} {gd : Option (List Code)} {cn : Str} {cs : Scope} {a : Addr} {ccd : Value} {cl : List (Str × Addr)} {outer : List Env} {A₀ : Around} {base h₀ : Heap} {L : Addr} {m : Str → Option Value} {news : List (Addr × Obj)} {s : Shared} {Q E : Value → Shared → Prop}
    (k1 : Below A₀ base outer h₀) (k2 : Fr h₀ L s.heap m) (k3 : (hd.heap_1_1 w.params).In h₀) (k4 : News h₀ L s.heap news) (k5 : Top hd.view_1_2 (looseW hd.view_1_2 []) mean mg mb h₀) (kK : cs.kind = .function) (kd : dp + D < recursionLimit) (ku : un + 3 * D + 8 < cLine) (kp : pre s.heap)
    (kR : ∀ h' tk', Fr h₀ L h' m → News h₀ L h' news → ∀ y t, P y → Q (.str y t) { s with heap := h', toks := tk' }) :
    wpAny (model PR w) (ktrTop dp un gd cn cs L a ccd cl outer) (call (.ref f) vs) Q E s :=
  C.use k1 k2 k3 k4 k5 kK kd ku kp fun _ h' tk' F N _ ⟨y, t, r, q⟩ => r ▸ kR h' tk' F N y t q
/-- a new object, made by the call -/
def NewObj (o : Obj) (g : Heap) (v : Value) (h' : Heap) : Prop := ∃ a, v = .ref a ∧ h'.get? a = some o ∧ g.get? a = none
theorem NewObj.intro {o : Obj} {g h' : Heap} {L a : Addr} {news : List (Addr × Obj)} (N : News g L h' news) (hm : (a, o) ∈ news) : NewObj o g (.ref a) h' := ⟨a, rfl, (N _ hm).1, (N _ hm).2.2⟩
theorem Cl.useO {w : World} {mean : ExcName → Option Value} {mg mb : Str → Option Value} {D : Nat} {f : Addr} {vs : List Value} {pre : Heap → Prop} {o : Obj} (C : Cl w mean mg mb D f vs pre (NewObj o))
    {dp un : Nat} {gd : Option (List Code)} {cn : Str} {cs : Scope} {a : Addr} {ccd : Value} {cl : List (Str × Addr)} {outer : List Env} {A₀ : Around} {base h₀ : Heap} {L : Addr} {m : Str → Option Value} {news : List (Addr × Obj)} {s : Shared} {Q E : Value → Shared → Prop}
    (k1 : Below A₀ base outer h₀) (k2 : Fr h₀ L s.heap m) (k3 : (hd.heap_1_1 w.params).In h₀) (k4 : News h₀ L s.heap news) (k5 : Top hd.view_1_2 (looseW hd.view_1_2 []) mean mg mb h₀) (kK : cs.kind = .function) (kd : dp + D < recursionLimit) (ku : un + 3 * D + 8 < cLine) (kp : pre s.heap)
    (kR : ∀ x h' tk', Fr h₀ L h' m → News h₀ L h' ((x, o) :: news) → (∀ p ∈ news, p.1 ≠ x) → Q (.ref x) { s with heap := h', toks := tk' }) :
    wpAny (model PR w) (ktrTop dp un gd cn cs L a ccd cl outer) (call (.ref f) vs) Q E s := by
  refine C.use k1 k2 k3 k4 k5 kK kd ku kp ?_
  rintro v h' tk' F N hk ⟨x, rfl, hx, hg⟩
  obtain ⟨oL, _, _, hL, _⟩ := k2.ns
  refine kR x h' tk' F (fun p hp => ?_) fun p hp e => ?_
  · rcases List.mem_cons.mp hp with rfl | hp
    · refine ⟨hx, fun e => ?_, ?_⟩
      · have e2 : x = L := e
        rw [e2, hL] at hg; cases hg
      · cases q : h₀.get? x with
        | none => rfl
        | some o' => rw [k2.keep _ _ q] at hg; cases hg
    · exact N p hp
  · have := (k4 p hp).1
    rw [e, hg] at this; cases this
end Mine
end
section
open PySem PySem.W PyProof.Rows PySem.Calls PyProof.V PySem.Spec
set_option maxRecDepth 100000
set_option maxHeartbeats 8000000
namespace Mine
theorem sectLoops : True := by
  w_top off
  k_with_none
  trivial
theorem splitA {f g : Str → Option Value} {P : Str → Prop} (a : Str) (h1 : f a = g a) (h2 : ∀ z, z ≠ a → P z → f z = g z) : ∀ z, P z → f z = g z := fun z hz => by
  by_cases e : z = a
  · rw [e]; exact h1
  · exact h2 z e hz
theorem splitB {f g : Str → Option Value} {P R : Str → Prop} (a : Str) (h1 : f a = g a) (h2 : ∀ z, z ≠ a → R z → P z → f z = g z) : ∀ z, R z → P z → f z = g z := fun z hr hz => by
  by_cases e : z = a
  · rw [e]; exact h1
  · exact h2 z e hr hz
theorem splitC {f g : Str → Option Value} {P R S : Str → Prop} (a : Str) (h1 : f a = g a) (h2 : ∀ z, z ≠ a → S z → R z → P z → f z = g z) : ∀ z, S z → R z → P z → f z = g z := fun z hs hr hz => by
  by_cases e : z = a
  · rw [e]; exact h1
  · exact h2 z e hs hr hz
theorem splitD {f g : Str → Option Value} {P R S T : Str → Prop} (a : Str) (h1 : f a = g a) (h2 : ∀ z, z ≠ a → T z → S z → R z → P z → f z = g z) : ∀ z, T z → S z → R z → P z → f z = g z := fun z ht hs hr hz => by
  by_cases e : z = a
  · rw [e]; exact h1
  · exact h2 z e ht hs hr hz
theorem splitE {f g : Str → Option Value} {P R S T U : Str → Prop} (a : Str) (h1 : f a = g a) (h2 : ∀ z, z ≠ a → U z → T z → S z → R z → P z → f z = g z) : ∀ z, U z → T z → S z → R z → P z → f z = g z := fun z hu ht hs hr hz => by
  by_cases e : z = a
  · rw [e]; exact h1
  · exact h2 z e hu ht hs hr hz
theorem news_new {h₀ h h' : Heap} {L a : Addr} {m : Str → Option Value} {o : Obj} {news : List (Addr × Obj)} (hg : h.get? a = none) (F : Fr h₀ L h m) (ha : h'.get? a = some o) (N : News h₀ L h' news) : News h₀ L h' ((a, o) :: news) := fun p hp => by
  obtain ⟨oL, _, _, hL, _⟩ := F.ns
  rcases List.mem_cons.mp hp with rfl | hp
  · refine ⟨ha, fun e => ?_, ?_⟩
    · have e2 : a = L := e
      rw [e2, hL] at hg; cases hg
    · cases q : h₀.get? a with
      | none => rfl
      | some o' => rw [F.keep _ _ q] at hg; cases hg
  · exact N p hp
theorem news_ne {h₀ h : Heap} {L a : Addr} {news : List (Addr × Obj)} (hg : h.get? a = none) (N : News h₀ L h news) : ∀ p ∈ news, p.1 ≠ a := fun p hp e => by
  have := (N p hp).1
  rw [e, hg] at this; cases this
theorem Cl.useG {w : World} {mean : ExcName → Option Value} {mg mb : Str → Option Value} {D : Nat} {f : Addr} {vs : List Value} {pre : Heap → Prop} {O : Tok → Tok → Tok → Tok → Tok → Obj} (C : Cl w mean mg mb D f vs pre (fun g v h' => ∃ t1 t2 t3 t4 t5, NewObj (O t1 t2 t3 t4 t5) g v h'))
    {dp un : Nat} {gd : Option (List Code)} {cn : Str} {cs : Scope} {a : Addr} {ccd : Value} {cl : List (Str × Addr)} {outer : List Env} {A₀ : Around} {base h₀ : Heap} {L : Addr} {m : Str → Option Value} {news : List (Addr × Obj)} {s : Shared} {Q E : Value → Shared → Prop}
    (k1 : Below A₀ base outer h₀) (k2 : Fr h₀ L s.heap m) (k3 : (hd.heap_1_1 w.params).In h₀) (k4 : News h₀ L s.heap news) (k5 : Top hd.view_1_2 (looseW hd.view_1_2 []) mean mg mb h₀) (kK : cs.kind = .function) (kd : dp + D < recursionLimit) (ku : un + 3 * D + 8 < cLine) (kp : pre s.heap)
    (kR : ∀ t1 t2 t3 t4 t5 x h' tk', Fr h₀ L h' m → News h₀ L h' ((x, O t1 t2 t3 t4 t5) :: news) → Q (.ref x) { s with heap := h', toks := tk' }) :
    wpAny (model PR w) (ktrTop dp un gd cn cs L a ccd cl outer) (call (.ref f) vs) Q E s :=
  C.use k1 k2 k3 k4 k5 kK kd ku kp fun _ h' tk' F N _ ⟨t1, t2, t3, t4, t5, x, r, hx, hg⟩ => r ▸ kR t1 t2 t3 t4 t5 x h' tk' F (news_new hg k2 hx N)
theorem Cl.useW {w : World} {mean : ExcName → Option Value} {mg mb : Str → Option Value} {D : Nat} {f : Addr} {vs : List Value} {pre : Heap → Prop} {P : List Value → Prop} {O : List Value → Obj} (C : Cl w mean mg mb D f vs pre (fun g v h' => ∃ ws, P ws ∧ NewObj (O ws) g v h'))
    {dp un : Nat} {gd : Option (List Code)} {cn : Str} {cs : Scope} {a : Addr} {ccd : Value} {cl : List (Str × Addr)} {outer : List Env} {A₀ : Around} {base h₀ : Heap} {L : Addr} {m : Str → Option Value} {news : List (Addr × Obj)} {s : Shared} {Q E : Value → Shared → Prop}
    (k1 : Below A₀ base outer h₀) (k2 : Fr h₀ L s.heap m) (k3 : (hd.heap_1_1 w.params).In h₀) (k4 : News h₀ L s.heap news) (k5 : Top hd.view_1_2 (looseW hd.view_1_2 []) mean mg mb h₀) (kK : cs.kind = .function) (kd : dp + D < recursionLimit) (ku : un + 3 * D + 8 < cLine) (kp : pre s.heap)
    (kR : ∀ ws, P ws → ∀ x h' tk', Fr h₀ L h' m → News h₀ L h' ((x, O ws) :: news) → Q (.ref x) { s with heap := h', toks := tk' }) :
    wpAny (model PR w) (ktrTop dp un gd cn cs L a ccd cl outer) (call (.ref f) vs) Q E s :=
  C.use k1 k2 k3 k4 k5 kK kd ku kp fun _ h' tk' F N _ ⟨ws, hw, x, r, hx, hg⟩ => r ▸ kR ws hw x h' tk' F (news_new hg k2 hx N)
theorem Cl.useW2 {w : World} {mean : ExcName → Option Value} {mg mb : Str → Option Value} {D : Nat} {f : Addr} {vs : List Value} {pre : Heap → Prop} {P : List Value → Prop} {O : List Value → Nat → Obj} (C : Cl w mean mg mb D f vs pre (fun g v h' => ∃ ws k, P ws ∧ NewObj (O ws k) g v h'))
    {dp un : Nat} {gd : Option (List Code)} {cn : Str} {cs : Scope} {a : Addr} {ccd : Value} {cl : List (Str × Addr)} {outer : List Env} {A₀ : Around} {base h₀ : Heap} {L : Addr} {m : Str → Option Value} {news : List (Addr × Obj)} {s : Shared} {Q E : Value → Shared → Prop}
    (k1 : Below A₀ base outer h₀) (k2 : Fr h₀ L s.heap m) (k3 : (hd.heap_1_1 w.params).In h₀) (k4 : News h₀ L s.heap news) (k5 : Top hd.view_1_2 (looseW hd.view_1_2 []) mean mg mb h₀) (kK : cs.kind = .function) (kd : dp + D < recursionLimit) (ku : un + 3 * D + 8 < cLine) (kp : pre s.heap)
    (kR : ∀ ws k, P ws → ∀ x h' tk', Fr h₀ L h' m → (∀ p ∈ news, p.1 ≠ x) → News h₀ L h' ((x, O ws k) :: news) → Q (.ref x) { s with heap := h', toks := tk' }) :
    wpAny (model PR w) (ktrTop dp un gd cn cs L a ccd cl outer) (call (.ref f) vs) Q E s :=
  C.use k1 k2 k3 k4 k5 kK kd ku kp fun _ h' tk' F N _ ⟨ws, k, hw, x, r, hx, hg⟩ => r ▸ kR ws k hw x h' tk' F (news_ne hg k4) (news_new hg k2 hx N)
theorem Cl.pre {w : World} {mean : ExcName → Option Value} {mg mb : Str → Option Value} {D : Nat} {f : Addr} {vs : List Value} {pre pre' : Heap → Prop} {R : Heap → Value → Heap → Prop} (C : Cl w mean mg mb D f vs pre R) (hp : ∀ h, pre' h → pre h) : Cl w mean mg mb D f vs pre' R := by
  intro dp un gd cn cs a ccd cl outer A₀ base h₀ L m news s Q E B F X N T hck hdp hun hpre hret
  exact C _ _ _ _ _ _ _ _ _ _ _ _ _ _ _ _ _ _ B F X N T hck hdp hun (hp _ hpre) hret
theorem Cl.no {w : World} {mean : ExcName → Option Value} {mg mb : Str → Option Value} {D : Nat} {f : Addr} {vs : List Value} {pre : Heap → Prop} {R : Heap → Value → Heap → Prop} (hp : ∀ h, pre h → False) : Cl w mean mg mb D f vs pre R := by
  intro dp un gd cn cs a ccd cl outer A₀ base h₀ L m news s Q E B F X N T hck hdp hun hpre hret
  exact (hp _ hpre).elim
theorem Cl.post {w : World} {mean : ExcName → Option Value} {mg mb : Str → Option Value} {D : Nat} {f : Addr} {vs : List Value} {pre : Heap → Prop} {R R' : Heap → Value → Heap → Prop} (C : Cl w mean mg mb D f vs pre R) (hR : ∀ g v h, R g v h → R' g v h) : Cl w mean mg mb D f vs pre R' := by
  intro dp un gd cn cs a ccd cl outer A₀ base h₀ L m news s Q E B F X N T hck hdp hun hpre hret
  exact C _ _ _ _ _ _ _ _ _ _ _ _ _ _ _ _ _ _ B F X N T hck hdp hun hpre fun v h' tk' F' N' k r => hret v h' tk' F' N' k (hR _ _ _ r)
theorem Cl.ofNat {w : World} {mean : ExcName → Option Value} {mg mb : Str → Option Value} {D : Nat} {f : Addr} {vs : Int → List Value} {pre : Nat → Heap → Prop} {R : Nat → Heap → Value → Heap → Prop} (C : ∀ i : Nat, Cl w mean mg mb D f (vs (i : Int)) (pre i) (R i)) (z : Int) : Cl w mean mg mb D f (vs z) (fun h => 0 ≤ z ∧ pre z.toNat h) (R z.toNat) := by
  by_cases hz : 0 ≤ z
  · obtain ⟨i, rfl⟩ := Int.eq_ofNat_of_zero_le hz
    exact (C i).pre fun h hh => hh.2
  · exact Cl.no fun h hh => hz hh.1
/-- a frame's map: one name bound by the state, above the rest -/
abbrev mp1 {σ : Type} (n : Str) (f : σ → Value) (M : Str → Option Value) : σ → Str → Option Value := fun c y => if y = n then some (f c) else M y
abbrev mp2 {σ : Type} (n : Str) (f : σ → Value) (n' : Str) (f' : σ → Value) (M : Str → Option Value) : σ → Str → Option Value := fun c y => if y = n then some (f c) else if y = n' then some (f' c) else M y
theorem int_val {a b : Int} {t : Tok} (h : a = b) : some (Value.int a t) = some (Value.int b t) := by rw [h]
abbrev mpo (n : Str) (M : Str → Option Value) : Option Value → Str → Option Value := fun c y => if y = n then c else M y
theorem mpo_start {x n : Str} {M : Str → Option Value} {c : Option Value} (h : M n = c) : ∀ z, z ≠ x → M z = mpo n M c z := fun z _ => by
  by_cases e : z = n
  · rw [e]; show M n = if n = n then c else M n; rw [if_pos rfl, h]
  · show M z = if z = n then c else M z; rw [if_neg e]
/-- a mark at which the walk stops -/
def Stop (P : Prop) : Prop := P
theorem Stop.out {P : Prop} (h : Stop P) : P := h
section
variable {prog : Program} {w : World} {A : Around} {E : Value → Shared → Prop} {s : Shared} {env : Env} {h₀ : Heap} {x : Str} {body : List Stmt} {Q : Flow → Shared → Prop} {σ : Type}

def MyEnd (h₀ : Heap) (L : Addr) (Led : σ → List (Addr × Obj)) (Mp : σ → Str → Option Value) (x : Str) (P : σ → Prop) (own : List (Addr × Obj)) (adr : List Addr) (s₁ s₂ : Shared) : Prop :=
  ∃ c h' tk m' news', P c ∧ s₂ = { s₁ with heap := h', toks := tk } ∧ Fr h₀ L h' m' ∧ News h₀ L h' news' ∧ (∀ p ∈ Led c, p ∈ news') ∧ (∀ p ∈ own, p ∈ news') ∧ (Led c).map (·.1) = adr ∧ ∀ z, z ≠ x → m' z = Mp c z
def MyPost (h₀ : Heap) (L : Addr) (Led : σ → List (Addr × Obj)) (Mp : σ → Str → Option Value) (x : Str) (P : σ → Prop) (own : List (Addr × Obj)) (adr : List Addr) (s₁ : Shared) (Q : Flow → Shared → Prop) (f : Flow) (s₂ : Shared) : Prop :=
  match f with
  | .ret v => Q (.ret v) s₂
  | .brk => Q .next s₂
  | _ => MyEnd h₀ L Led Mp x P own adr s₁ s₂
theorem MyEnd.intro {L : Addr} {Led : σ → List (Addr × Obj)} {Mp : σ → Str → Option Value} {P : σ → Prop} {own : List (Addr × Obj)} {adr : List Addr} {s₁ : Shared} {h' : Heap} {tk : Nat} {m' : Str → Option Value} {news' : List (Addr × Obj)}
    (c : σ) (F : Fr h₀ L h' m') (N : News h₀ L h' news') (hl : ∀ p ∈ Led c, p ∈ news') (ho : ∀ p ∈ own, p ∈ news') (ha : (Led c).map (·.1) = adr) (hm : ∀ z, z ≠ x → m' z = Mp c z) (hp : P c) :
    MyEnd h₀ L Led Mp x P own adr s₁ { s₁ with heap := h', toks := tk } := ⟨c, h', tk, m', news', hp, rfl, F, N, hl, ho, ha, hm⟩

theorem my_walk {I : Addr} {fp wr : List Addr} {n : Nat} {V : Nat → Value → Prop} {St : Nat → Heap → Prop} {m₀ : Str → Option Value} (Led : σ → List (Addr × Obj)) (Mp : σ → Str → Option Value) (P : Nat → σ → Prop) (c₀ : σ)
    (W : Walks prog w A I fp wr n V St) (hLf : env.locals ∉ fp) (hwr : ∀ b ∈ wr, h₀.get? b = none) (hnw : ∀ p ∈ Led c₀, p.1 ∉ wr) (hfp : ∀ q ∈ Led c₀, q.1 ∉ fp) (hst : St 0 s.heap) (F : Fr h₀ env.locals s.heap m₀) (N : News h₀ env.locals s.heap (Led c₀)) (hm : ∀ z, z ≠ x → m₀ z = Mp c₀ z) (hp : P 0 c₀)
    (turn : ∀ i c v h tk own, i < n → V i v → OwnOff own ((Led c₀).map (·.1)) → P i c → (Led c).map (·.1) = (Led c₀).map (·.1) → Fr h₀ env.locals h (fun y => if y = x then some v else Mp c y) → News h₀ env.locals h (Led c ++ own) →
      wpAny (model prog w) A (execs body env) (MyPost h₀ env.locals Led Mp x (P (i + 1)) own ((Led c₀).map (·.1)) { s with heap := h, toks := tk } Q) E { s with heap := h, toks := tk })
    (done : ∀ c u h tk, P n c → (Led c).map (·.1) = (Led c₀).map (·.1) → Fr h₀ env.locals h (fun y => if y = x then u else Mp c y) → News h₀ env.locals h (Led c) → Q .next { s with heap := h, toks := tk }) :
    LoopAtV prog w A h₀ env x body Q E (.ref I) s := by
  refine loop_invN (fun i m nx => ∃ c, P i c ∧ nx = Led c ∧ (Led c).map (·.1) = (Led c₀).map (·.1) ∧ ∀ z, z ≠ x → m z = Mp c z) W hLf hwr hnw hfp hst F N ⟨c₀, hp, rfl, rfl, hm⟩ ?_ ?_
  · rintro i v m₁ nx h tk own hi hv _ hoff ⟨c, hc, rfl, hadr, hm₁⟩ F₁ N₁
    have e : (fun y => if y = x then some v else m₁ y) = fun y => if y = x then some v else Mp c y := by
      funext y
      by_cases hy : y = x
      · simp [hy]
      · simp only [if_neg hy]; exact hm₁ y hy
    rw [e] at F₁
    refine wpAny_mono (turn i c v h tk own hi hv hoff hc hadr F₁ N₁) (fun f s₂ p => ?_) fun _ _ e => e
    have up : MyEnd h₀ env.locals Led Mp x (P (i + 1)) own ((Led c₀).map (·.1)) { s with heap := h, toks := tk } s₂ →
        InvEndN h₀ env.locals (fun m nx => ∃ c, P (i + 1) c ∧ nx = Led c ∧ (Led c).map (·.1) = (Led c₀).map (·.1) ∧ ∀ z, z ≠ x → m z = Mp c z) own ((Led c₀).map (·.1)) { s with heap := h, toks := tk } s₂ := by
      rintro ⟨c', h', tk', m', news', hp', e', F', N', hl, ho, ha, hm'⟩
      exact ⟨h', tk', m', news', Led c', e', F', N', hl, ho, ha, c', hp', rfl, ha, hm'⟩
    cases f with
    | ret v => exact p
    | brk => exact p
    | next => exact up p
    | cont => exact up p
  · rintro m₁ nx h tk ⟨c, hc, rfl, hadr, hm₁⟩ F₁ N₁
    have e : m₁ = (fun y => if y = x then m₁ x else Mp c y) := by
      funext y
      by_cases hy : y = x
      · simp [hy]
      · simp only [if_neg hy]; exact hm₁ y hy
    rw [e] at F₁
    exact done c (m₁ x) h tk hc hadr F₁ N₁

theorem my_str {xt : PySem.Str} {tx : Tok} {m₀ : Str → Option Value} (Led : σ → List (Addr × Obj)) (Mp : σ → Str → Option Value) (P : Nat → σ → Prop) (c₀ : σ)
    (hh : A.handled = none) (F : Fr h₀ env.locals s.heap m₀) (N : News h₀ env.locals s.heap (Led c₀)) (hm : ∀ z, z ≠ x → m₀ z = Mp c₀ z) (hp : P 0 c₀)
    (turn : ∀ i c n t h tk own, xt.cps[i]? = some n → OwnOff own ((Led c₀).map (·.1)) → P i c → (Led c).map (·.1) = (Led c₀).map (·.1) → Fr h₀ env.locals h (fun y => if y = x then some (.str ⟨#[n]⟩ t) else Mp c y) → News h₀ env.locals h (Led c ++ own) →
      wpAny (model prog w) A (execs body env) (MyPost h₀ env.locals Led Mp x (P (i + 1)) own ((Led c₀).map (·.1)) { s with heap := h, toks := tk } Q) E { s with heap := h, toks := tk })
    (done : ∀ c u h tk, P xt.cps.size c → (Led c).map (·.1) = (Led c₀).map (·.1) → Fr h₀ env.locals h (fun y => if y = x then u else Mp c y) → News h₀ env.locals h (Led c) → Q .next { s with heap := h, toks := tk }) :
    wpAny (model prog w) A (pyIter (.str xt tx)) (fun it s₂ => LoopAtV prog w A h₀ env x body Q E it s₂) E s := by
  refine wpAny_pyIter_str fun o St hW hst => ?_
  refine my_walk Led Mp P c₀ (hW A hh) ?_ ?_ ?_ ?_ hst (F.push _) (fun p hp => ⟨Heap.get?_push_of_some _ (N p hp).1, (N p hp).2⟩) hm hp ?_ ?_
  · intro hm
    exact absurd F.ns.lt ((List.mem_singleton.mp hm) ▸ Nat.lt_irrefl _)
  · intro b' hb
    rw [List.mem_singleton.mp hb]
    exact next_is_new F
  · intro p hp hI
    exact absurd (Heap.lt_size (N p hp).1) ((List.mem_singleton.mp hI) ▸ Nat.lt_irrefl _)
  · intro p hp hI
    exact absurd (Heap.lt_size (N p hp).1) ((List.mem_singleton.mp hI) ▸ Nat.lt_irrefl _)
  · rintro i c v h tk own _ ⟨n, u, hn, rfl⟩ hoff hc hadr F₁ N₁
    exact turn i c n u h tk own hn hoff hc hadr F₁ N₁
  · intro c u h tk hc hadr F₁ N₁
    exact done c u h tk hc hadr F₁ N₁
theorem my_list {l : Addr} {vs : Array Value} {m₀ : Str → Option Value} (Led : σ → List (Addr × Obj)) (Mp : σ → Str → Option Value) (P : Nat → σ → Prop) (c₀ : σ)
    (hh : A.handled = none) (hl : s.heap.IsList l vs) (hlL : l ≠ env.locals) (hlN : ∀ q ∈ Led c₀, q.1 ≠ l) (F : Fr h₀ env.locals s.heap m₀) (N : News h₀ env.locals s.heap (Led c₀)) (hm : ∀ z, z ≠ x → m₀ z = Mp c₀ z) (hp : P 0 c₀)
    (turn : ∀ i c v h tk own, vs[i]? = some v → OwnOff own ((Led c₀).map (·.1)) → P i c → (Led c).map (·.1) = (Led c₀).map (·.1) → Fr h₀ env.locals h (fun y => if y = x then some v else Mp c y) → News h₀ env.locals h (Led c ++ own) →
      wpAny (model prog w) A (execs body env) (MyPost h₀ env.locals Led Mp x (P (i + 1)) own ((Led c₀).map (·.1)) { s with heap := h, toks := tk } Q) E { s with heap := h, toks := tk })
    (done : ∀ c u h tk, P vs.size c → (Led c).map (·.1) = (Led c₀).map (·.1) → Fr h₀ env.locals h (fun y => if y = x then u else Mp c y) → News h₀ env.locals h (Led c) → Q .next { s with heap := h, toks := tk }) :
    wpAny (model prog w) A (pyIter (.ref l)) (fun it s₂ => LoopAtV prog w A h₀ env x body Q E it s₂) E s := by
  obtain ⟨ol, hol, _⟩ := id hl
  have hlt : l < s.heap.objs.size := Heap.lt_size hol
  have hne : l ≠ s.heap.objs.size := Nat.ne_of_lt hlt
  refine wpAny_pyIter_list hl ?_
  have W := Walks.list (prog := prog) (w := w) hh s.heap.objs.size l hne vs
  refine my_walk Led Mp P c₀ W ?_ ?_ ?_ ?_ ⟨⟨_, Heap.get?_push_size _ rfl, rfl, rfl⟩, hl.at fun o e => Heap.get?_push_of_some _ e⟩ (F.push _) (fun p hp => ⟨Heap.get?_push_of_some _ (N p hp).1, (N p hp).2⟩) hm hp ?_ ?_
  · intro hm
    rcases List.mem_cons.mp hm with e | hm
    · exact absurd F.ns.lt (e ▸ Nat.lt_irrefl _)
    · exact hlL (List.mem_singleton.mp hm).symm
  · intro b' hb
    rw [List.mem_singleton.mp hb]
    exact next_is_new F
  · intro p hp hI
    exact absurd (Heap.lt_size (N p hp).1) ((List.mem_singleton.mp hI) ▸ Nat.lt_irrefl _)
  · intro p hp hI
    rcases List.mem_cons.mp hI with e | hI
    · exact absurd (Heap.lt_size (N p hp).1) (e ▸ Nat.lt_irrefl _)
    · exact hlN p hp (List.mem_singleton.mp hI)
  · rintro i c v h tk own _ hv hoff hc hadr F₁ N₁
    exact turn i c v h tk own hv hoff hc hadr F₁ N₁
  · intro c u h tk hc hadr F₁ N₁
    exact done c u h tk hc hadr F₁ N₁

def WEnd (h₀ : Heap) (L : Addr) (Led : σ → List (Addr × Obj)) (Mp : σ → Str → Option Value) (P : σ → Prop) (s₁ s₂ : Shared) : Prop :=
  ∃ c h' tk m' news', P c ∧ s₂ = { s₁ with heap := h', toks := tk } ∧ Fr h₀ L h' m' ∧ News h₀ L h' news' ∧ (∀ p ∈ Led c, p ∈ news') ∧ ∀ z, True → m' z = Mp c z
def WPost (h₀ : Heap) (L : Addr) (Led : σ → List (Addr × Obj)) (Mp : σ → Str → Option Value) (P : σ → Prop) (s₁ : Shared) (Q : Flow → Shared → Prop) (f : Flow) (s₂ : Shared) : Prop :=
  match f with
  | .ret v => Q (.ret v) s₂
  | .brk => Q .next s₂
  | _ => WEnd h₀ L Led Mp P s₁ s₂
theorem WEnd.intro {L : Addr} {Led : σ → List (Addr × Obj)} {Mp : σ → Str → Option Value} {P : σ → Prop} {s₁ : Shared} {h' : Heap} {tk : Nat} {m' : Str → Option Value} {news' : List (Addr × Obj)}
    (c : σ) (F : Fr h₀ L h' m') (N : News h₀ L h' news') (hl : ∀ p ∈ Led c, p ∈ news') (hm : ∀ z, True → m' z = Mp c z) (hp : P c) :
    WEnd h₀ L Led Mp P s₁ { s₁ with heap := h', toks := tk } := ⟨c, h', tk, m', news', hp, rfl, F, N, hl, hm⟩

theorem my_while {test : PySem.Expr} {orelse : List Stmt} {pos : Pos} {L : Addr} {m₀ : Str → Option Value} {news : List (Addr × Obj)} (Led : σ → List (Addr × Obj)) (Mp : σ → Str → Option Value) (P : σ → Prop) (μ : σ → Nat) (c₀ : σ)
    (F : Fr h₀ L s.heap m₀) (N : News h₀ L s.heap news) (hl : ∀ p ∈ Led c₀, p ∈ news) (hm : ∀ z, m₀ z = Mp c₀ z) (hp : P c₀)
    (turn : ∀ c h tk, P c → Fr h₀ L h (Mp c) → News h₀ L h (Led c) →
      wpAny (model prog w) A (isTrue test env (eval test env)) (fun b s₂ => if b = true then wpAny (model prog w) A (execs body env) (WPost h₀ L Led Mp (fun c' => P c' ∧ μ c' < μ c) { s with heap := h, toks := tk } Q) E s₂
        else wpAny (model prog w) A (execs orelse env) Q E s₂) E { s with heap := h, toks := tk })
    (hE : PassesOwn (model prog w) A env E := by passes_own) :
    wpAny (model prog w) A (exec (.While test body orelse pos) env) Q E s := by
  refine whl_start 0 ?_
  have key : ∀ n : Nat, ∀ (c : σ) (h : Heap) (tk : Nat) (m : Str → Option Value) (nw : List (Addr × Obj)), μ c ≤ n → P c → Fr h₀ L h m → News h₀ L h nw → (∀ p ∈ Led c, p ∈ nw) → (∀ z, m z = Mp c z) →
      ∀ k, WhlRest prog w A E env test body orelse Q k { s with heap := h, toks := tk } := by
    intro n
    induction n with
    | zero =>
      intro c h tk m nw hn hp F N hl hm k
      have e : m = Mp c := funext hm
      subst e
      refine whl_turn (k := 0) hE ?_
      refine wpAny_mono (turn c h tk hp F (fun p hp => N p (hl p hp))) (fun b s₂ hb => ?_) fun _ _ x => x
      cases b with
      | false => exact WhlIf.no rfl (by simpa using hb)
      | true =>
        refine WhlIf.yes rfl ?_
        refine wpAny_mono (by simpa using hb) (fun f s₃ hf => ?_) fun _ _ x => x
        have up : WEnd h₀ L Led Mp (fun c' => P c' ∧ μ c' < μ c) { s with heap := h, toks := tk } s₃ → WhlRest prog w A E env test body orelse Q 0 s₃ := by
          rintro ⟨c', h', tk', m', news', ⟨_, hlt⟩, _⟩
          omega
        cases f with
        | next => exact up hf
        | cont => exact up hf
        | brk => exact hf
        | ret v => exact hf
    | succ n ih =>
      intro c h tk m nw hn hp F N hl hm k
      have e : m = Mp c := funext hm
      subst e
      refine whl_turn (k := 0) hE ?_
      refine wpAny_mono (turn c h tk hp F (fun p hp => N p (hl p hp))) (fun b s₂ hb => ?_) fun _ _ x => x
      cases b with
      | false => exact WhlIf.no rfl (by simpa using hb)
      | true =>
        refine WhlIf.yes rfl ?_
        refine wpAny_mono (by simpa using hb) (fun f s₃ hf => ?_) fun _ _ x => x
        have up : WEnd h₀ L Led Mp (fun c' => P c' ∧ μ c' < μ c) { s with heap := h, toks := tk } s₃ → WhlRest prog w A E env test body orelse Q 0 s₃ := by
          rintro ⟨c', h', tk', m', news', ⟨hp', hlt⟩, rfl, F', N', hl', hm'⟩
          exact ih c' h' tk' m' news' (by omega) hp' F' N' hl' (fun z => hm' z trivial) 0
        cases f with
        | next => exact up hf
        | cont => exact up hf
        | brk => exact hf
        | ret v => exact hf
  exact key (μ c₀) c₀ s.heap s.toks m₀ news (Nat.le_refl _) hp F N hl hm 0

def XPost (h₀ : Heap) (L : Addr) (Led : σ → List (Addr × Obj)) (Mp : σ → Str → Option Value) (R : σ → Prop) (s₁ : Shared) (Q : Flow → Shared → Prop) (f : Flow) (s₂ : Shared) : Prop :=
  match f with
  | .ret v => Q (.ret v) s₂
  | .next => WEnd h₀ L Led Mp R s₁ s₂
  | _ => False
theorem XPost.out {L : Addr} {Led : σ → List (Addr × Obj)} {Mp : σ → Str → Option Value} {R : σ → Prop} {s₁ s₂ : Shared} (h : WEnd h₀ L Led Mp R s₁ s₂) : XPost h₀ L Led Mp R s₁ Q .next s₂ := h
/-- a while, its exits joined -/
theorem my_while2 {test : PySem.Expr} {orelse : List Stmt} {pos : Pos} {L : Addr} {m₀ : Str → Option Value} {news : List (Addr × Obj)} (Led : σ → List (Addr × Obj)) (Mp : σ → Str → Option Value) (P : σ → Prop) (R : σ → Prop) (μ : σ → Nat) (c₀ : σ)
    (F : Fr h₀ L s.heap m₀) (N : News h₀ L s.heap news) (hl : ∀ p ∈ Led c₀, p ∈ news) (hm : ∀ z, m₀ z = Mp c₀ z) (hp : P c₀)
    (turn : ∀ c h tk, P c → Fr h₀ L h (Mp c) → News h₀ L h (Led c) →
      wpAny (model prog w) A (isTrue test env (eval test env)) (fun b s₂ => if b = true then wpAny (model prog w) A (execs body env) (WPost h₀ L Led Mp (fun c' => P c' ∧ μ c' < μ c) { s with heap := h, toks := tk } (XPost h₀ L Led Mp R s Q)) E s₂
        else wpAny (model prog w) A (execs orelse env) (XPost h₀ L Led Mp R s Q) E s₂) E { s with heap := h, toks := tk })
    (rest : ∀ c h tk, R c → Fr h₀ L h (Mp c) → News h₀ L h (Led c) → Q .next { s with heap := h, toks := tk })
    (hE : PassesOwn (model prog w) A env E := by passes_own) :
    wpAny (model prog w) A (exec (.While test body orelse pos) env) Q E s := by
  refine wpAny_mono (my_while (Q := XPost h₀ L Led Mp R s Q) Led Mp P μ c₀ F N hl hm hp turn hE) (fun f s₂ hf => ?_) fun _ _ e => e
  have up : WEnd h₀ L Led Mp R s s₂ → Q .next s₂ := by
    rintro ⟨c, h', tk, m', news', hR, rfl, F', N', hl', hm'⟩
    have e : m' = Mp c := funext fun z => hm' z trivial
    subst e
    exact rest c h' tk hR F' fun p hp => N' p (hl' p hp)
  cases f with
  | next => exact up hf
  | ret v => exact hf
  | brk => exact hf.elim
  | cont => exact hf.elim
end
end Mine
end
section
open PySem PySem.W PyProof.Rows PySem.Calls PyProof.V PySem.Spec
open PyProof.Rows.LCg PyProof.Rows.LCt
set_option maxRecDepth 100000
set_option maxHeartbeats 8000000
namespace Mine
theorem sectComp : True := by
  w_top off
  k_with_none
  trivial
section
variable {prog : Program} {w : World} {A : Around} {E : Value → Shared → Prop} {s : Shared} {env : Env} {h₀ : Heap} {L : Addr} {m : Str → Option Value} {x : Str}

/-- the end of a comprehension's element -/
def CEnd (h₀ : Heap) (L : Addr) (m : Str → Option Value) (s₁ : Shared) (I : Addr) (oI : Obj) (C : Addr) (oC : Obj) (D : Addr) (oD : Obj) (news : List (Addr × Obj)) (R : Value → Prop) (y : Value) (s₂ : Shared) : Prop :=
  ∃ h' tk all, s₂ = { s₁ with heap := h', toks := tk } ∧ Fr h₀ L h' m ∧ News h₀ L h' all ∧ (∀ p ∈ (I, oI) :: (C, oC) :: (D, oD) :: news, p ∈ all) ∧ R y
theorem CEnd.intro {s₁ : Shared} {I : Addr} {oI : Obj} {C : Addr} {oC : Obj} {D : Addr} {oD : Obj} {news : List (Addr × Obj)} {R : Value → Prop} {y : Value} {h' : Heap} {tk : Nat} {all : List (Addr × Obj)}
    (F : Fr h₀ L h' m) (N : News h₀ L h' all) (sub : ∀ p ∈ (I, oI) :: (C, oC) :: (D, oD) :: news, p ∈ all) (r : R y) : CEnd h₀ L m s₁ I oI C oC D oD news R y { s₁ with heap := h', toks := tk } := ⟨h', tk, all, rfl, F, N, sub, r⟩

theorem my_rest {elt : PySem.Expr} {scope : Scope} {cl : List (Str × Addr)} {S : List (Addr × Obj) → Prop} {P : Nat → Value → Prop} {Fin : List Value → List (Addr × Obj) → Prop} {n : Nat} {news : List (Addr × Obj)} (Inv : Nat → List Value → Prop) (hS : S news)
    (he : ∀ i ys v I oI C oC D m₂ h tk (E' : Value → Shared → Prop), i < n → P i v → Inv i ys → NsObj oC m₂ → m₂ x = some v → Fr h₀ L h m → News h₀ L h ((I, oI) :: (C, oC) :: (D, lst ys) :: news) → Off3 I C D news → ((@Ne Nat I C) ∧ (@Ne Nat I D) ∧ (@Ne Nat C D)) →
      wpAny (model prog w) A (eval elt (compEnvC scope cl C env)) (CEnd h₀ L m { s with heap := h, toks := tk } I oI C oC D (lst ys) news (fun y => Inv (i + 1) (ys ++ [y]))) E' { s with heap := h, toks := tk })
    (fin : ∀ ys, Inv n ys → Fin ys news) :
    ∀ k i ys, i + k = n → Inv i ys → CompRest prog w A h₀ L m env elt x scope cl s S P Fin k i ys news := by
  intro k
  induction k with
  | zero => intro i ys hi hv; exact CompRest.zero (fin ys (by have : i = n := by omega
                                                              exact this ▸ hv))
  | succ k ih =>
    intro i ys hi hv
    refine CompRest.succ fun v I oI C oC D m₂ h tk E' hP hNs hx F N off hne => ?_
    refine wpAny_mono (he i ys v I oI C oC D m₂ h tk E' (by omega) hP hv hNs hx F N off hne) (fun y s₂ hy => ?_) fun _ _ e => e
    obtain ⟨h', tk', all, rfl, F', N', sub, hr⟩ := hy
    exact CompEnd.intro F' N' news sub off hS (ih (i + 1) (ys ++ [y]) (by omega) hr)

def CSrc (prog : Program) (w : World) (A : Around) (h₀ : Heap) (L : Addr) (m : Str → Option Value) (env : Env) (elt : PySem.Expr) (x : Str) (scope : Scope) (cl : List (Str × Addr)) (Fin : Shared → List Value → List (Addr × Obj) → Prop) (it : Value) (s₂ : Shared) : Prop :=
  ∃ I fp n P St S news, it = .ref I ∧ Walks prog w A I fp [I] n P St ∧ n ≤ sizeLine ∧ (∀ i h, St i h → ∃ o, h.get? I = some o) ∧
    (∀ i (h h' : Heap) (o : Obj) (nw : List (Addr × Obj)), St i h → h.get? I = some o → h'.get? I = some o → (∀ b o, h₀.get? b = some o → h'.get? b = some o) → News h₀ L h' nw → S nw → St i h') ∧
    St 0 s₂.heap ∧ (∀ b ∈ fp, b < s₂.heap.objs.size) ∧ Fr h₀ L s₂.heap m ∧ News h₀ L s₂.heap news ∧ L ≠ I ∧ h₀.get? I = none ∧ (∀ p ∈ news, p.1 ≠ I) ∧ S news ∧
    CompRest prog w A h₀ L m env elt x scope cl s₂ S P (Fin s₂) n 0 [] news

theorem my_ListComp {elt iter : PySem.Expr} {px : Pos} {scope : Scope} {cl : List (Str × Addr)} {pos : Pos} {Q : Value → Shared → Prop} (_F₀ : Fr h₀ L s.heap m)
    (hclos : closureFor scope env = pure cl) (hcell : ∀ y ∈ scope.names, y.2 ≠ .cell) (hkind : scope.kind = .function)
    (hnames : ∀ y ∈ scope.names, y.2 = .local → scope.names.lookup y.1 = some .local) (hx : scope.names.lookup x = some .local)
    (h : wpAny (model prog w) A (eval iter env) (fun xv s₁ => wpAny (model prog w) A (pyIter xv) (CSrc prog w A h₀ L m env elt x scope cl (fun s₂ => FinE h₀ L m s₂ Q)) E s₁) E s)
    (hs : ∀ x, foldedSetIterable iter env x = pure x := by intro _; rfl) :
    wpAny (model prog w) A (eval (.ListComp elt [⟨.Name x px, iter, [], 0⟩] scope pos) env) Q E s := by
  rw [eval_ListComp]
  refine wpAny_comprehension_free (use := none) rfl hs hclos hkind hnames (wpAny_mono h (fun xv s₁ h₁ => wpAny_mono h₁ (fun it s₂ h₂ => ?_) fun _ _ e => e) fun _ _ e => e)
  obtain ⟨I, fp, n, P, St, S, news, rfl, W, hsz, hIo, hSt, hst, hfp, F, N, hIL, hI₀, off, hS, R⟩ := h₂
  refine block_U W hsz hIo hSt hcell hkind hx hst hfp F N hIL hI₀ off hS R ?_
  intro D C h tk m' ys news' F' N' o1 hn hC₀ hD₀ hCL hDL hCD offC fin
  refine ⟨m', hn, fun h'' hs'' => fin D h'' tk (F'.change hs'' hCL hC₀) (fun p hp => ?_) o1⟩
  refine ⟨hs''.extBut _ _ ?_ (N' p hp).1, (N' p hp).2⟩
  rcases List.mem_cons.mp hp with rfl | hp
  · exact Ne.symm hCD
  · exact offC p hp

theorem my_comp_str {elt : PySem.Expr} {scope : Scope} {cl : List (Str × Addr)} {Fin : Shared → List Value → List (Addr × Obj) → Prop} {xt : PySem.Str} {tx : Tok} {news : List (Addr × Obj)}
    (hh : A.handled = none) (F : Fr h₀ L s.heap m) (N : News h₀ L s.heap news) (hsz : xt.cps.size ≤ sizeLine)
    (h : ∀ g : Heap, CompRest prog w A h₀ L m env elt x scope cl { s with heap := g } (fun _ => True) (SignAt xt) (Fin { s with heap := g }) xt.cps.size 0 [] news) :
    wpAny (model prog w) A (pyIter (.str xt tx)) (CSrc prog w A h₀ L m env elt x scope cl Fin) E s := by
  have key : ∀ (ty : String), (∀ I, Walks prog w A I [I] [I] xt.cps.size (SignAt xt) (fun i h => h.IsStrIter I ty xt tx i)) →
      CSrc prog w A h₀ L m env elt x scope cl Fin (.ref s.heap.objs.size) { s with heap := s.heap.push { cls := .type ty, data := .fields #[.str xt tx, .int 0 0] } } := by
    intro ty hW
    refine ⟨s.heap.objs.size, [s.heap.objs.size], xt.cps.size, SignAt xt, _, fun _ => True, news, rfl, hW _, hsz, fun i h st => ?_, ?_, ⟨_, Heap.get?_push_size _ rfl, rfl, rfl⟩, fun b hb => ?_, F.push _, fun p hp => ⟨Heap.get?_push_of_some _ (N p hp).1, (N p hp).2⟩,
      Nat.ne_of_lt F.ns.lt, next_is_new F, fun p hp => Nat.ne_of_lt (Heap.lt_size (N p hp).1), trivial, h _⟩
    · obtain ⟨o, e, _⟩ := st; exact ⟨o, e⟩
    · intro i h h' o nw st e e' _ _ _
      obtain ⟨o', q, r⟩ := st
      rw [e] at q; cases q
      exact ⟨o, e', r⟩
    · rw [List.mem_singleton.mp hb]
      show s.heap.objs.size < (s.heap.push _).objs.size
      rw [Heap.size_push]; exact Nat.lt_succ_self _
  cases ha : xt.cps.all (· < 128)
  · exact wpAny_pyIter_wide ha (key "str_iterator" fun I => Walks.strWide hh I xt tx)
  · exact wpAny_pyIter_ascii ha (key "str_ascii_iterator" fun I => Walks.strAscii hh I xt tx)
theorem my_comp_bytes {elt : PySem.Expr} {scope : Scope} {cl : List (Str × Addr)} {Fin : Shared → List Value → List (Addr × Obj) → Prop} {b : Array UInt8} {tx : Tok} {news : List (Addr × Obj)}
    (hh : A.handled = none) (F : Fr h₀ L s.heap m) (N : News h₀ L s.heap news) (hsz : b.size ≤ sizeLine)
    (h : ∀ g : Heap, CompRest prog w A h₀ L m env elt x scope cl { s with heap := g } (fun _ => True) (fun i v => ∃ c u, b[i]? = some c ∧ v = .int (c.toNat : Int) u) (Fin { s with heap := g }) b.size 0 [] news) :
    wpAny (model prog w) A (pyIter (.bytes b tx)) (CSrc prog w A h₀ L m env elt x scope cl Fin) E s := by
  refine KBw.pyIter_bytes ?_
  refine ⟨s.heap.objs.size, [s.heap.objs.size], b.size, _, _, fun _ => True, news, rfl, KBw.walks hh _ b tx, hsz, fun i h st => ?_, ?_, ⟨_, Heap.get?_push_size _ rfl, rfl, rfl⟩, fun b hb => ?_, F.push _, fun p hp => ⟨Heap.get?_push_of_some _ (N p hp).1, (N p hp).2⟩,
      Nat.ne_of_lt F.ns.lt, next_is_new F, fun p hp => Nat.ne_of_lt (Heap.lt_size (N p hp).1), trivial, h _⟩
  · obtain ⟨o, e, _⟩ := st; exact ⟨o, e⟩
  · intro i h h' o nw st e e' _ _ _
    obtain ⟨o', q, r⟩ := st
    rw [e] at q; cases q
    exact ⟨o, e', r⟩
  · rw [List.mem_singleton.mp hb]
    show s.heap.objs.size < (s.heap.push _).objs.size
    rw [Heap.size_push]; exact Nat.lt_succ_self _
end
end Mine
end
section
open PySem PySem.W PyProof.Rows PySem.Calls
set_option maxRecDepth 100000
set_option maxHeartbeats 8000000
namespace Mine
theorem sectBaseC : True := by
  w_top off
  k_with_none
  trivial
/-- as cl_of, for a def whose names are captured -/
theorem cl_ofC {w : World} {mean : ExcName → Option Value} {mg mb : Str → Option Value} {D : Nat} {f : Addr} {vs : List Value} {pre : Heap → Prop} {R : Heap → Value → Heap → Prop}
    {name : Str} {params : Arguments} {body : List Stmt} {scope : Scope} {dV kV doc pm cdv ct oc : Value} {an od : Option Addr} {osl : Array (Option Value)} {binds : List (Str × Value)}
    (ho : (hd.heap_1_1 w.params).lookup f = some ⟨oc, od, .func (fnOf name name params body scope dV kV doc pm an cdv ct), osl⟩) (hcd : codeIn (hd.heap_1_1 w.params) cdv name = true)
    (hbind : ∀ s, BindsTo s (fnOf name name params body scope dV kV doc pm an cdv ct) ⟨vs, []⟩ binds) (hkind : (binds.all fun y => scope.names.lookup y.1 == some .local || scope.names.lookup y.1 == some .cell) = true)
    (hnd : ((cellsFrom 0 scope.names []).map (·.1)).Nodup) (hco : scope.isCoroutine = false) (hgen : scope.isGenerator = false) (hk : scope.kind = .function)
    (h : ∀ (dp un : Nat) (gd : Option (List Code)) (outer : List Env) (A₀ : Around) (base g : Heap) (L : Addr) (h₁ : Heap) (cells : List (Addr × Obj)) (s : Shared),
      Below A₀ base outer g → Fr g L h₁ (bindL (envOfC name scope L f cdv).kindOf binds fun _ => none) → (hd.heap_1_1 w.params).In g → News g L h₁ cells →
      CellsAre (bindC (envOfC name scope L f cdv).kindOf binds fun _ => none) (cellsFrom (L + 1) scope.names []) cells → Top hd.view_1_2 (looseW hd.view_1_2 []) mean mg mb g →
      dp + D < recursionLimit + 1 → un + 3 * D + 8 < cLine + 3 → 0 < D → pre g → s.heap = h₁ →
      wpAny (model PR w) (ktrTop dp un gd name scope L f cdv (cellsFrom (L + 1) scope.names []) outer) (execs body (envOfC name scope L f cdv))
        (fun fl s' => Done g s R (match fl with | .ret v => v | _ => .none) s') (fun _ _ => False) s)
    (hD : 0 < D := by decide) : Cl w mean mg mb D f vs pre R := by
  intro dp un gd cn cs a ccd cl outer A₀ base h₀ L m news s Q E B F X₀ N T hck hdp hun hpre hret
  refine wpAny_call ?_
  obtain ⟨FG, BG, st, _⟩ := groundX (A := ktrTop dp un gd cn cs L a ccd cl outer) (env := envX cn cs L a ccd cl) (R := fun _ _ => True) B F News.nil rfl rfl hck
  refine codeAny_call_function (fd := fnOf name name params body scope dV kV doc pm an cdv ct) (body := body) (by show dp < recursionLimit; omega) ((X₀.keeps F.keep) _ _ ho) rfl hco hgen rfl (codeRec_of (X₀.keeps F.keep) hcd) (hbind s _ _ _ _ ?_)
  refine wpAny_newFunctionEnv_cells hk (kindsX hkind _) fun env' he s' x => ?_
  subst he
  refine ⟨(T.nolimit.keeps F.keep).keeps x.toInCall.keep, codeAny_func ?_⟩
  obtain ⟨h₁, tk, rfl, _⟩ := x.done
  have hk₁ := x.toInCall.keep
  obtain ⟨cells, NC, Y⟩ := Cl.news (h₀ := s.heap) (Nat.le_refl _) fun n c hm => ⟨x.cell n c (lookup_of_mem_nodup (cellsFrom_names scope.names 0 (s.heap.objs.size + 1) [] [] rfl ▸ hnd) hm), x.above n c hm⟩
  refine wpAny_mono (h (dp + 1) (un + 3) gd (envX cn cs L a ccd cl :: outer) _ base s.heap s.heap.objs.size h₁ cells { s with heap := h₁, toks := tk } BG ⟨x.toInCall.ns, hk₁, Nat.le_refl _⟩ (X₀.keeps F.keep) NC Y (T.keeps F.keep) (by omega) (by omega) hD hpre rfl) (fun fl s' hl => ?_) fun _ _ x => x.elim
  obtain ⟨h', tk', rfl, hkp, hR⟩ := hl
  obtain ⟨oL, es, ep, hL, r⟩ := F.ns
  exact hret _ h' tk' ⟨⟨oL, es, ep, hkp _ _ hL, r⟩, fun b o e => hkp _ _ (F.keep _ _ e), F.above⟩ (fun p hp => ⟨hkp _ _ (N p hp).1, (N p hp).2⟩) hkp hR
end Mine
end
section
open PySem PySem.W PyProof.Rows PySem.Calls PyProof.V PySem.Spec
namespace Mine
theorem sectTab : True := by
  w_top off
  k_with_none
  trivial
def tbD (tb : List (Str × Str)) : List (PyData × PyData) := tb.map fun p => (.str p.1, .str p.2)
def lookT (tb : List (Str × Str)) (k : Str) : Option Str := (tb.find? fun p => p.1 == k).map (·.2)
@[irreducible] def putT (tb : List (Str × Str)) (k v : Str) : List (Str × Str) := if tb.any (fun p => p.1 == k) then tb.map (fun p => if p.1 == k then (p.1, v) else p) else tb ++ [(k, v)]
theorem same_beq (a b : Str) : Spec.same (.str a) (.str b) = (a == b) := by
  rw [PyProof.V.same_str]; rw [Bool.eq_iff_iff]; simp
theorem tbD_put (tb : List (Str × Str)) (k v : Str) : tbD (putT tb k v) = putD (.str k) (.str v) (tbD tb) := by
  have h1 : (tbD tb).any (fun p => Spec.same p.1 (.str k)) = tb.any (fun p => p.1 == k) := by
    simp only [tbD, List.any_map, Function.comp_def, same_beq]
  unfold putD putT
  rw [h1]
  split
  · simp only [tbD, List.map_map]
    apply List.map_congr_left
    intro p hp
    simp only [Function.comp_def, same_beq]
    split <;> rfl
  · simp [tbD]
theorem tbD_look (tb : List (Str × Str)) (k : Str) : Spec.lookup (.str k) (tbD tb) = (lookT tb k).map .str := by
    induction tb with
  | nil => rfl
  | cons p r ih =>
    show (if Spec.same (.str p.1) (.str k) then some (PyData.str p.2) else Spec.lookup (.str k) (tbD r)) = _
    rw [same_beq, ih]
    unfold lookT
    rw [List.find?_cons]
    cases h : (p.1 == k) <;> simp
def TabObj (w : World) (o : Obj) (tb : List (Str × Str)) : Prop := ∃ kvs, o.IsDictOf (strKind PR w) kvs ∧ FlatPairs PyData.str kvs (tbD tb)
theorem TabObj.tab {w : World} {o : Obj} {tb : List (Str × Str)} {h : Heap} {d : Addr} (T : TabObj w o tb) (ho : h.get? d = some o) (hm : (d == sysModules) = false) : StrTab PR w h d (tbD tb) :=
  let ⟨_, hd, hf⟩ := T; TabAt.ofObj hm ho hd hf
end Mine
end
section
open PySem PySem.W PyProof.Rows PySem.Calls
set_option maxRecDepth 100000
set_option maxHeartbeats 8000000
namespace Mine
theorem sectF1 : True := by
  w_top off
  k_with_none
  trivial
variable {w : World} {mean : ExcName → Option Value} {mg mb : Str → Option Value}
theorem fillK : PySem.Challenge.rw_nz0089_01 = PySem.Challenge.rw_nz0089_01 ∧ hd.heap_1_1 = hd.heap_1_1 := by k_fill; exact ⟨rfl, rfl⟩
theorem strv {x y : Str} {t : Tok} (h : x = y) : ∃ t', Value.str x t = .str y t' := ⟨t, by rw [h]⟩
def isSp (c : Str) : Bool := c == "\t" || c == "\n" || c == "\x0c" || c == "\r" || c == " "
theorem is_space_cl (c : Str) (t : Tok) : Cl w mean mg mb 1 21 [.str c t] (fun _ => True) (fun _ v _ => v = .bool (isSp c)) := by
  refine cl_of (binds := [(PySem.Str.ofString "c", _)]) (by k_is) (by k_is) (fun s => BindsTo.of_eq rfl) (locs rfl) (by decide) rfl rfl rfl ?_
  intro dp un gd outer A₀ base g L h₁ s B' F' X' N' T' hdp hun hD hpre hs
  subst hs
  (try dsimp only [kstB, List.reverse, List.reverseAux] at F')
  (try dsimp only)
  k_fold
  k_steps
  ((try dsimp only [MyPost, WPost, XPost]); (try k_unfold); (try dsimp only [MyPost, WPost, XPost]); (try k_unfold); (try dsimp only [MyPost, WPost, XPost]); (try k_unfold); (try dsimp only); refine Done.intro (by assumption) ?_)
  simp only [isSp, List.any_cons, List.any_nil, Bool.or_false, Bool.or_assoc, BEq.comm (a := c)]
def upN (n : Nat) : Bool := decide (65 ≤ n) && decide (n ≤ 90)
def lowN (n : Nat) : Nat := if upN n then n + 32 else n
theorem lt1 (n k : Nat) : ([n] < [k]) = (n < k) := by
  simp [List.cons_lt_cons_iff]
theorem is_upper_cl (n : Nat) (t : Tok) : Cl w mean mg mb 1 28 [.str ⟨#[n]⟩ t] (fun _ => True) (fun _ v _ => v = .bool (upN n)) := by
  have eA : (PySem.Str.ofString "A").cps.toList = [65] := by decide +kernel
  have eZ : (PySem.Str.ofString "Z").cps.toList = [90] := by decide +kernel
  refine cl_of (binds := [(PySem.Str.ofString "c", _)]) (by k_is) (by k_is) (fun s => BindsTo.of_eq rfl) (locs rfl) (by decide) rfl rfl rfl ?_
  intro dp un gd outer A₀ base g L h₁ s B' F' X' N' T' hdp hun hD hpre hs
  subst hs
  (try dsimp only [kstB, List.reverse, List.reverseAux] at F')
  (try dsimp only)
  k_fold
  k_steps
  all_goals ((try dsimp only [MyPost, WPost, XPost]); (try k_unfold); (try dsimp only [MyPost, WPost, XPost]); (try k_unfold); (try dsimp only [MyPost, WPost, XPost]); (try k_unfold); (try dsimp only); refine Done.intro (by assumption) ?_)
  all_goals simp only [eA, eZ, lt1, upN] at *
  all_goals (congr 1; rw [Bool.eq_iff_iff]; simp at *; omega)
theorem linesF1_1 : True := by
  k_with "call ref" => ((k_here; with_reducible refine my_at 28 ?_); k_dflt ((refine' Cl.useV (is_upper_cl _ _) ?k1 ?k2 ?k3 ?k4 ?k5 ?kK ?kd ?ku ?kp ?_; (case k1 => k_asm); (case k2 => k_asm); (case k3 => k_asm); (case k4 => k_asm); (case k5 => k_asm); (case kK => first | exact rfl | assumption); (case kd => (try dsimp only); omega); (case ku => (try dsimp only); omega)); (case kp => first | exact trivial | k_asm); k_whole); (intro h9 tk9 F9 N9; try k_sweep))
  trivial
theorem lower_cl (n : Nat) (t : Tok) : Cl w mean mg mb 2 35 [.str ⟨#[n]⟩ t] (fun _ => True) (fun _ v _ => ∃ t', v = .str ⟨#[lowN n]⟩ t') := by
  refine cl_of (binds := [(PySem.Str.ofString "c", _)]) (by k_is) (by k_is) (fun s => BindsTo.of_eq rfl) (locs rfl) (by decide) rfl rfl rfl ?_
  intro dp un gd outer A₀ base g L h₁ s B' F' X' N' T' hdp hun hD hpre hs
  subst hs
  (try dsimp only [kstB, List.reverse, List.reverseAux] at F')
  (try dsimp only)
  k_fold
  k_steps
  · rename_i hx
    have hx' : 65 ≤ n ∧ n ≤ 90 := by simpa [upN] using hx
    refine chr_of_range (by omega) (by omega) ?_
    k_steps
    ((try dsimp only [MyPost, WPost, XPost]); (try k_unfold); (try dsimp only [MyPost, WPost, XPost]); (try k_unfold); (try dsimp only [MyPost, WPost, XPost]); (try k_unfold); (try dsimp only); refine Done.intro (by assumption) ?_)
    exact strv (by simp only [lowN, hx, if_true]; rfl)
  · rename_i hx
    ((try dsimp only [MyPost, WPost, XPost]); (try k_unfold); (try dsimp only [MyPost, WPost, XPost]); (try k_unfold); (try dsimp only [MyPost, WPost, XPost]); (try k_unfold); (try dsimp only); refine Done.intro (by assumption) ?_)
    exact strv (by simp only [lowN, hx]; rfl)
end Mine
end
section
open PySem PySem.W PyProof.Rows PySem.Calls
set_option maxRecDepth 100000
set_option maxHeartbeats 8000000
namespace Mine
theorem sectF2 : True := by
  w_top off
  k_with_none
  trivial
variable {w : World} {mean : ExcName → Option Value} {mg mb : Str → Option Value}
def lowS (c : Int) : Str := ⟨#[lowN c.toNat]⟩
theorem join_map (f : Nat → Nat) (cs : List Nat) : Txt.join (PySem.Str.ofString "") (cs.map fun n => (⟨#[f n]⟩ : Str)) = ⟨(cs.map f).toArray⟩ := by
  unfold Txt.join
  rw [StrLaws.glued_eq_join]
  have he : (PySem.Str.ofString "") = ⟨#[]⟩ := by decide +kernel
  rw [he]
  induction cs with
  | nil => rfl
  | cons a r ih =>
    cases r with
    | nil => rfl
    | cons b r =>
      show (⟨#[f a]⟩ : Str) ++ (⟨#[]⟩ : Str) ++ Str.join ⟨#[]⟩ ((b :: r).map fun n => (⟨#[f n]⟩ : Str)) = _
      rw [ih]
      apply PySem.Str.ext'
      apply Array.toList_inj.mp
      simp [PySem.Str.cps_append]
theorem len_ones {α : Type} (f : α → Nat) : ∀ l : List α, ((l.map fun n => (⟨#[f n]⟩ : Str)).map (·.length)).sum = l.length
  | [] => rfl
  | a :: r => by
    simp only [List.map_cons, List.sum_cons, List.length_cons, len_ones f r]
    show 1 + _ = _
    omega
theorem ones_ok {α : Type} (f : α → Nat) (l : List α) (h : l.length ≤ 1000000) : ((l.map fun n => (⟨#[f n]⟩ : Str)).map (·.length)).sum + (l.map fun n => (⟨#[f n]⟩ : Str)).length * (PySem.Str.ofString "").length ≤ 16777216 := by
  have h0 : (PySem.Str.ofString "").length = 0 := by decide +kernel
  rw [len_ones, h0, Nat.mul_zero]
  omega
def lowT (x : Str) : Str := ⟨x.cps.map lowN⟩
theorem take_map_succ {α : Type} (f : Nat → α) {x : Str} {i n : Nat} (h : x.cps[i]? = some n) : (x.cps.toList.take (i + 1)).map f = (x.cps.toList.take i).map f ++ [f n] := by
  have h' : x.cps.toList[i]? = some n := by simpa using h
  rw [List.take_add_one, h']; simp
theorem linesF2_1 : True := by
  k_with "call ref" => ((k_here; with_reducible refine my_at 35 ?_); k_dflt ((refine' Cl.useS (lower_cl _ _) ?k1 ?k2 ?k3 ?k4 ?k5 ?kK ?kd ?ku ?kp ?_; (case k1 => k_asm); (case k2 => k_asm); (case k3 => k_asm); (case k4 => k_asm); (case k5 => k_asm); (case kK => first | exact rfl | assumption); (case kd => (try dsimp only); omega); (case ku => (try dsimp only); omega)); (case kp => first | exact trivial | k_asm); k_whole); (intro h9 tk9 F9 N9 t9; try k_sweep))
  k_with "exec For Name Name cons nil" => refine Stop.out ?_
  trivial
theorem lower_text_cl (x : Str) (t : Tok) : Cl w mean mg mb 3 42 [.str x t] (fun _ => x.length ≤ 1000000) (fun _ v _ => ∃ t', v = .str (lowT x) t') := by
  refine cl_of (binds := [(PySem.Str.ofString "text", _)]) (by k_is) (by k_is) (fun s => BindsTo.of_eq rfl) (locs rfl) (by decide) rfl rfl rfl ?_
  intro dp un gd outer A₀ base g L h₁ s B' F' X' N' T' hdp hun hD hpre hs
  subst hs
  (try dsimp only [kstB, List.reverse, List.reverseAux] at F')
  (try dsimp only)
  k_fold
  k_steps
  rename Fr _ _ _ _ => F1
  rename News _ _ _ _ => N1
  unfold Stop
  refine For_invVF F1 rfl rfl ?_
  walk1
  refine' my_str (σ := Array Value × Nat) (fun c => [(_, listOf c.1 c.2)]) (fun _ => _) (fun i c => StrsAre c.1.toList ((x.cps.toList.take i).map fun n => ⟨#[lowN n]⟩)) (#[], 0) rfl F1 N1 (fun _ _ => rfl) ?_ ?_ ?_
  · exact .nil
  · intro i c n t h tk own hn hoff hc hadr F N
    dsimp only
    k_fold
    have hsz : c.1.size ≤ 1000000 := by
      have h1 := hc.len_eq
      simp only [List.length_map, List.length_take, Array.length_toList] at h1
      have h2 : x.cps.size ≤ 1000000 := hpre
      omega
    k_steps
    ((try dsimp only); (rename Fr _ _ _ _ => Fe); (rename News _ _ _ _ => Ne); refine MyEnd.intro ((c.1.push _, c.2 + 1)) Fe Ne (by (try dsimp only); first | exact List.forall_mem_nil _ | with_unfolding_all ((try simp only [List.nil_append, List.cons_append]); k_allIn)) (by intro p hp; (try simp only [List.nil_append, List.cons_append]); with_unfolding_all k_ownIn) (by rfl) (by intro z hz0; (try simp only [if_true]); (try simp only [if_neg hz0]); (try rfl)) ?_)
    dsimp only
    rw [take_map_succ _ hn, Array.toList_push]
    exact hc.append' (.cons _ _ .nil)
  · intro c u h tk hc hadr F N
    dsimp only
    k_steps
    have hlen : x.cps.toList.length = x.length := rfl
    refine join_list (News.isList (by assumption) (.head _)) (by simpa using hc) ?_ ?_
    · rw [List.take_of_length_le (by simp)]
      exact ones_ok _ _ hpre
    · intro t' k
      k_steps
      ((try dsimp only [MyPost, WPost, XPost]); (try k_unfold); (try dsimp only [MyPost, WPost, XPost]); (try k_unfold); (try dsimp only [MyPost, WPost, XPost]); (try k_unfold); (try dsimp only); refine Done.intro (by assumption) ?_)
      refine strv ?_
      rw [List.take_of_length_le (by simp), join_map]
      simp only [lowT, ← Array.toList_map, Array.toArray_toList]
end Mine
end
section
open PySem PySem.W PyProof.Rows PySem.Calls
set_option maxRecDepth 100000
set_option maxHeartbeats 8000000
namespace Mine
theorem sectF3 : True := by
  w_top off
  k_with_none
  trivial
variable {w : World} {mean : ExcName → Option Value} {mg mb : Str → Option Value}
def skipF (p : Nat → Bool) (l : List Nat) (i : Nat) : Nat := i + ((l.drop i).takeWhile p).length
theorem skipF_stop {p : Nat → Bool} {l : List Nat} {i : Nat} (h : l.length ≤ i) : skipF p l i = i := by
  unfold skipF; rw [List.drop_eq_nil_of_le h]; rfl
theorem skipF_step {p : Nat → Bool} {l : List Nat} {i n : Nat} (h : l[i]? = some n) (hp : p n = true) : skipF p l i = skipF p l (i + 1) := by
  obtain ⟨hi, rfl⟩ := List.getElem?_eq_some_iff.mp h
  unfold skipF
  rw [List.drop_eq_getElem_cons hi, List.takeWhile_cons, if_pos hp, List.length_cons]; omega
theorem skipF_here {p : Nat → Bool} {l : List Nat} {i n : Nat} (h : l[i]? = some n) (hp : p n = false) : skipF p l i = i := by
  obtain ⟨hi, rfl⟩ := List.getElem?_eq_some_iff.mp h
  unfold skipF
  rw [List.drop_eq_getElem_cons hi, List.takeWhile_cons, hp]; rfl
theorem toNat_succ (a : Nat) : ((a : Int) + 1).toNat = a + 1 := by omega
def cutL {α : Type} (l : List α) (lo hi : Nat) : List α := (l.drop lo).take (hi - lo)
theorem cut_min {α : Type} (l : List α) (a b : Nat) : (l.drop (min a l.length)).take (min b l.length - min a l.length) = (l.drop a).take (b - a) := by
  by_cases ha : a ≤ l.length
  · rw [Nat.min_eq_left ha]
    by_cases hb : b ≤ l.length
    · rw [Nat.min_eq_left hb]
    · rw [Nat.min_eq_right (by omega), List.take_of_length_le (by rw [List.length_drop]; omega), List.take_of_length_le (by rw [List.length_drop]; omega)]
  · rw [Nat.min_eq_right (by omega : l.length ≤ a), List.drop_eq_nil_of_le (Nat.le_refl _), List.drop_eq_nil_of_le (by omega : l.length ≤ a)]; simp
def spN (n : Nat) : Bool := n == 9 || n == 10 || n == 12 || n == 13 || n == 32
theorem isSp_one (n : Nat) : isSp ⟨#[n]⟩ = spN n := by
  have h1 : (PySem.Str.ofString "\t") = ⟨#[9]⟩ := by decide +kernel
  have h2 : (PySem.Str.ofString "\n") = ⟨#[10]⟩ := by decide +kernel
  have h3 : (PySem.Str.ofString "\x0c") = ⟨#[12]⟩ := by decide +kernel
  have h4 : (PySem.Str.ofString "\r") = ⟨#[13]⟩ := by decide +kernel
  have h5 : (PySem.Str.ofString " ") = ⟨#[32]⟩ := by decide +kernel
  have e : ∀ k : Nat, ((⟨#[n]⟩ : Str) == ⟨#[k]⟩) = (n == k) := by
    intro k
    rw [Bool.eq_iff_iff, beq_iff_eq, beq_iff_eq]
    exact ⟨fun h => by injection h with h; injection h with h; injection h, fun h => by rw [h]⟩
  unfold isSp
  rw [h1, h2, h3, h4, h5, e, e, e, e, e]; rfl
theorem item_at {x : Str} {i : Nat} (h : i < x.length) : ∃ n, x.cps.toList[i]? = some n ∧ Txt.item x (i : Int) = ⟨#[n]⟩ := by
  have h' : i < x.cps.size := h
  refine ⟨x.cps[i], by simp [h'], ?_⟩
  unfold Txt.item Txt.charAt
  have e : seqIndex? (i : Int) x.length = some i := by
    unfold seqIndex?
    have h1 : ¬ ((i : Int) < 0) := by omega
    have h2 : ((i : Int) < (x.length : Nat)) := by omega
    simp only [h1, if_false, h2, decide_true, Bool.and_true]
    simp
  rw [e]; simp [h']
theorem linesF3_1 : True := by
  k_with "call ref" => ((k_here; with_reducible refine my_at 21 ?_); k_dflt ((refine' Cl.useV (is_space_cl _ _) ?k1 ?k2 ?k3 ?k4 ?k5 ?kK ?kd ?ku ?kp ?_; (case k1 => k_asm); (case k2 => k_asm); (case k3 => k_asm); (case k4 => k_asm); (case k5 => k_asm); (case kK => first | exact rfl | assumption); (case kd => (try dsimp only); omega); (case ku => (try dsimp only); omega)); (case kp => first | exact trivial | k_asm); k_whole); (intro h9 tk9 F9 N9; try k_sweep))
  k_with "exec While BoolOp cons nil" => refine Stop.out ?_
  trivial
theorem skip_spaces_cl (x : Str) (t : Tok) (i : Nat) (ti : Tok) : Cl w mean mg mb 2 56 [.str x t, .int (i : Int) ti] (fun _ => x.length ≤ 1000000 ∧ i ≤ x.length) (fun _ v _ => ∃ t', v = .int (skipF spN x.cps.toList i : Nat) t') := by
  refine cl_of (binds := [(PySem.Str.ofString "text", _), (PySem.Str.ofString "at", _)]) (by k_is) (by k_is) (fun s => BindsTo.of_eq rfl) (locs rfl) (by decide) rfl rfl rfl ?_
  intro dp un gd outer A₀ base g L h₁ s B' F' X' N' T' hdp hun hD hpre hs
  subst hs
  (try dsimp only [kstB, List.reverse, List.reverseAux] at F')
  (try dsimp only)
  k_fold
  k_steps
  rename Fr _ _ _ _ => F1
  rename News _ _ _ _ => N1
  unfold Stop
  refine my_while (σ := Nat × Tok) (fun _ => []) (fun c y => if y = "at" then some (.int (c.1 : Int) c.2) else if y = "text" then some (.str x t) else none) (fun c => skipF spN x.cps.toList c.1 = skipF spN x.cps.toList i ∧ c.1 ≤ x.length) (fun c => x.length - c.1) (i, ti) F1 N1 (fun p hp => nomatch hp) ?_ ⟨rfl, hpre.2⟩ ?_ ?_
  · intro z; rfl
  · intro c h tk hc F N
    k_fold
    have hx := hpre.1
    have hc2 := hc.2
    k_steps
    · rename isSp _ = _ => hs
      rename ((_ : Int) < _) => hlt
      obtain ⟨n, hn, hi⟩ := item_at (x := x) (i := c.1) (by omega)
      rw [hi, isSp_one] at hs
      ((try dsimp only); (rename Fr _ _ _ _ => Fe); (rename News _ _ _ _ => Ne); refine WEnd.intro ((c.1 + 1, _)) Fe Ne (by (try dsimp only); first | exact List.forall_mem_nil _ | with_unfolding_all ((try simp only [List.nil_append, List.cons_append]); k_allIn)) (by refine splitA (PySem.Str.ofString "at") (by first | rfl | exact int_val (by omega)) ?_; intro z hz0 hz1; (try simp only [if_neg hz0]); (try simp only [if_neg hz1]); (try rfl)) ?_)
      refine ⟨⟨?_, ?_⟩, ?_⟩
      · rw [← hc.1, skipF_step hn hs]
      · dsimp only; omega
      · dsimp only; omega
    · ((try dsimp only [MyPost, WPost, XPost]); (try k_unfold); (try dsimp only [MyPost, WPost, XPost]); (try k_unfold); (try dsimp only [MyPost, WPost, XPost]); (try k_unfold); (try dsimp only); refine Done.intro (by assumption) ?_)
      rename isSp _ = _ => hs
      rename ((_ : Int) < _) => hlt
      obtain ⟨n, hn, hi⟩ := item_at (x := x) (i := c.1) (by omega)
      rw [hi, isSp_one] at hs
      rw [← hc.1, skipF_here hn hs]
      exact ⟨_, rfl⟩
    · ((try dsimp only [MyPost, WPost, XPost]); (try k_unfold); (try dsimp only [MyPost, WPost, XPost]); (try k_unfold); (try dsimp only [MyPost, WPost, XPost]); (try k_unfold); (try dsimp only); refine Done.intro (by assumption) ?_)
      rename (¬ _) => hlt
      rw [← hc.1, skipF_stop (show x.length ≤ c.1 by omega)]
      exact ⟨_, rfl⟩
  · with_unfolding_all passes_own
end Mine
end
section
open PySem PySem.W PyProof.Rows PySem.Calls PyProof.Rows.LCg
set_option maxRecDepth 100000
set_option maxHeartbeats 8000000
namespace Mine
theorem sectF4 : True := by
  w_top off
  k_with_none
  trivial
variable {w : World} {mean : ExcName → Option Value} {mg mb : Str → Option Value}
abbrev tupO (vs : List Value) : Obj := { cls := .type "tuple", data := .seq vs.toArray }
theorem gaps_cl : Cl w mean mg mb 1 70 [] (fun _ => True) (fun g v h' => ∃ t1 t2 t3 t4 t5, NewObj (tupO [.int 9 t1, .int 10 t2, .int 12 t3, .int 13 t4, .int 32 t5]) g v h') := by
  refine cl_of (binds := []) (by k_is) (by k_is) (fun s => BindsTo.of_eq rfl) (locs rfl) (by decide) rfl rfl rfl ?_
  intro dp un gd outer A₀ base g L h₁ s B' F' X' N' T' hdp hun hD hpre hs
  subst hs
  (try dsimp only [kstB, List.reverse, List.reverseAux] at F')
  (try dsimp only)
  k_fold
  k_steps
  ((try dsimp only [MyPost, WPost, XPost]); (try k_unfold); (try dsimp only [MyPost, WPost, XPost]); (try k_unfold); (try dsimp only [MyPost, WPost, XPost]); (try k_unfold); (try dsimp only); refine Done.intro (by assumption) ?_)
  rename News _ _ _ _ => N1
  exact ⟨_, _, _, _, _, NewObj.intro N1 (.head _)⟩
theorem octs_get {bs : List UInt8} {i : Nat} (h : i < bs.length) : (bs.map UInt8.toNat)[i]? = some (bs.getD i 0).toNat := by
  simp [h]
def thoseB (ns : List Int) (n : Nat) : Bool := ns.any fun x => x == (n : Int)
theorem linesF4_1 : True := by
  k_with "exec While BoolOp cons nil" => refine Stop.out ?_
  trivial
theorem skip_cl (bs : List UInt8) (t : Tok) (i : Nat) (ti : Tok) (d : Addr) (vs : List Value) (ns : List Int) : Cl w mean mg mb 1 77 [.bytes bs.toArray t, .int (i : Int) ti, .ref d] (fun h => bs.length ≤ 1000000 ∧ IsTup h d vs.toArray ∧ IntsAre vs ns) (fun _ v _ => ∃ t', v = .int (skipF (thoseB ns) (bs.map UInt8.toNat) i : Nat) t') := by
  refine cl_of (binds := [(PySem.Str.ofString "octets", _), (PySem.Str.ofString "at", _), (PySem.Str.ofString "those", _)]) (by k_is) (by k_is) (fun s => BindsTo.of_eq rfl) (locs rfl) (by decide) rfl rfl rfl ?_
  intro dp un gd outer A₀ base g L h₁ s B' F' X' N' T' hdp hun hD hpre hs
  subst hs
  (try dsimp only [kstB, List.reverse, List.reverseAux] at F')
  (try dsimp only)
  k_fold
  k_steps
  rename Fr _ _ _ _ => F1
  rename News _ _ _ _ => N1
  unfold Stop
  obtain ⟨hb, ht, hi⟩ := hpre
  refine my_while (σ := Nat × Tok) (fun _ => []) (fun c y => if y = "those" then some (.ref d) else if y = "at" then some (.int (c.1 : Int) c.2) else if y = "octets" then some (.bytes bs.toArray t) else none) (fun c => skipF (thoseB ns) (bs.map UInt8.toNat) c.1 = skipF (thoseB ns) (bs.map UInt8.toNat) i) (fun c => bs.length - c.1) (i, ti) F1 N1 (fun p hp => nomatch hp) (fun z => rfl) rfl ?_ (by with_unfolding_all passes_own)
  intro c h tk hc F N
  k_fold
  k_steps
  · rename (List.any _ _ = _) => hs
    rename ((_ : Int) < _) => hlt
    have hlt' : c.1 < bs.length := by simp only [List.size_toArray] at hlt; omega
    ((try dsimp only); (rename Fr _ _ _ _ => Fe); (rename News _ _ _ _ => Ne); refine WEnd.intro ((c.1 + 1, _)) Fe Ne (by (try dsimp only); first | exact List.forall_mem_nil _ | with_unfolding_all ((try simp only [List.nil_append, List.cons_append]); k_allIn)) (by refine splitA (PySem.Str.ofString "at") (by first | rfl | exact int_val (by omega)) ?_; intro z hz0 hz1; (try simp only [if_neg hz0]); (try simp only [if_neg hz1]); (try rfl)) ?_)
    refine ⟨?_, ?_⟩
    · rw [← hc, skipF_step (octs_get hlt') hs]
    · dsimp only; omega
  · ((try dsimp only [MyPost, WPost, XPost]); (try k_unfold); (try dsimp only [MyPost, WPost, XPost]); (try k_unfold); (try dsimp only [MyPost, WPost, XPost]); (try k_unfold); (try dsimp only); refine Done.intro (by assumption) ?_)
    rename (List.any _ _ = _) => hs
    rename ((_ : Int) < _) => hlt
    have hlt' : c.1 < bs.length := by simp only [List.size_toArray] at hlt; omega
    rw [← hc, skipF_here (octs_get hlt') hs]
    exact ⟨_, rfl⟩
  · ((try dsimp only [MyPost, WPost, XPost]); (try k_unfold); (try dsimp only [MyPost, WPost, XPost]); (try k_unfold); (try dsimp only [MyPost, WPost, XPost]); (try k_unfold); (try dsimp only); refine Done.intro (by assumption) ?_)
    rename (¬ _) => hlt
    rw [← hc, skipF_stop (by simp only [List.size_toArray] at hlt; rw [List.length_map]; omega)]
    exact ⟨_, rfl⟩
theorem seek_cl (bs : List UInt8) (t : Tok) (i : Nat) (ti : Tok) (d : Addr) (vs : List Value) (ns : List Int) : Cl w mean mg mb 1 84 [.bytes bs.toArray t, .int (i : Int) ti, .ref d] (fun h => bs.length ≤ 1000000 ∧ IsTup h d vs.toArray ∧ IntsAre vs ns) (fun _ v _ => ∃ t', v = .int (skipF (fun n => !thoseB ns n) (bs.map UInt8.toNat) i : Nat) t') := by
  refine cl_of (binds := [(PySem.Str.ofString "octets", _), (PySem.Str.ofString "at", _), (PySem.Str.ofString "those", _)]) (by k_is) (by k_is) (fun s => BindsTo.of_eq rfl) (locs rfl) (by decide) rfl rfl rfl ?_
  intro dp un gd outer A₀ base g L h₁ s B' F' X' N' T' hdp hun hD hpre hs
  subst hs
  (try dsimp only [kstB, List.reverse, List.reverseAux] at F')
  (try dsimp only)
  k_fold
  k_steps
  rename Fr _ _ _ _ => F1
  rename News _ _ _ _ => N1
  unfold Stop
  obtain ⟨hb, ht, hi⟩ := hpre
  refine my_while (σ := Nat × Tok) (fun _ => []) (fun c y => if y = "those" then some (.ref d) else if y = "at" then some (.int (c.1 : Int) c.2) else if y = "octets" then some (.bytes bs.toArray t) else none) (fun c => skipF (fun n => !thoseB ns n) (bs.map UInt8.toNat) c.1 = skipF (fun n => !thoseB ns n) (bs.map UInt8.toNat) i) (fun c => bs.length - c.1) (i, ti) F1 N1 (fun p hp => nomatch hp) (fun z => rfl) rfl ?_ (by with_unfolding_all passes_own)
  intro c h tk hc F N
  k_fold
  k_steps
  · ((try dsimp only [MyPost, WPost, XPost]); (try k_unfold); (try dsimp only [MyPost, WPost, XPost]); (try k_unfold); (try dsimp only [MyPost, WPost, XPost]); (try k_unfold); (try dsimp only); refine Done.intro (by assumption) ?_)
    rename (List.any _ _ = _) => hs
    rename ((_ : Int) < _) => hlt
    have hlt' : c.1 < bs.length := by simp only [List.size_toArray] at hlt; omega
    have hs' : (!thoseB ns (bs.getD c.1 0).toNat) = false := by rw [Bool.not_eq_false']; exact hs
    rw [← hc, skipF_here (octs_get hlt') hs']
    exact ⟨_, rfl⟩
  · rename (List.any _ _ = _) => hs
    rename ((_ : Int) < _) => hlt
    have hlt' : c.1 < bs.length := by simp only [List.size_toArray] at hlt; omega
    have hs' : (!thoseB ns (bs.getD c.1 0).toNat) = true := by rw [Bool.not_eq_true']; exact hs
    ((try dsimp only); (rename Fr _ _ _ _ => Fe); (rename News _ _ _ _ => Ne); refine WEnd.intro ((c.1 + 1, _)) Fe Ne (by (try dsimp only); first | exact List.forall_mem_nil _ | with_unfolding_all ((try simp only [List.nil_append, List.cons_append]); k_allIn)) (by refine splitA (PySem.Str.ofString "at") (by first | rfl | exact int_val (by omega)) ?_; intro z hz0 hz1; (try simp only [if_neg hz0]); (try simp only [if_neg hz1]); (try rfl)) ?_)
    refine ⟨?_, ?_⟩
    · rw [← hc, skipF_step (octs_get hlt') hs']
    · dsimp only; omega
  · ((try dsimp only [MyPost, WPost, XPost]); (try k_unfold); (try dsimp only [MyPost, WPost, XPost]); (try k_unfold); (try dsimp only [MyPost, WPost, XPost]); (try k_unfold); (try dsimp only); refine Done.intro (by assumption) ?_)
    rename (¬ _) => hlt
    rw [← hc, skipF_stop (by simp only [List.size_toArray] at hlt; rw [List.length_map]; omega)]
    exact ⟨_, rfl⟩
def vInt : Value → Int
  | .int i _ => i
  | _ => 0
theorem kp4 {z : Int} {n : Nat} {g h : Heap} {L d : Addr} {news : List (Addr × Obj)} {vs : List Value} (N : News g L h news) (hm : (d, tupO vs) ∈ news) (h1 : 0 ≤ z) (h2 : n ≤ 1000000) (h3 : IntsAre vs (vs.map vInt)) : 0 ≤ z ∧ n ≤ 1000000 ∧ IsTup h d vs.toArray ∧ IntsAre vs (vs.map vInt) :=
  ⟨h1, h2, News.isTup N hm, h3⟩
theorem skip_clZ (bs : List UInt8) (t : Tok) (z : Int) (ti : Tok) (d : Addr) (vs : List Value) : Cl w mean mg mb 1 77 [.bytes bs.toArray t, .int z ti, .ref d] (fun h => 0 ≤ z ∧ bs.length ≤ 1000000 ∧ IsTup h d vs.toArray ∧ IntsAre vs (vs.map vInt)) (fun _ v _ => ∃ (n : Nat) (t' : Tok), v = .int (n : Int) t' ∧ skipF (thoseB (vs.map vInt)) (bs.map UInt8.toNat) z.toNat = n) :=
  Cl.ofNat (vs := fun z => [.bytes bs.toArray t, .int z ti, .ref d]) (pre := fun _ h => bs.length ≤ 1000000 ∧ IsTup h d vs.toArray ∧ IntsAre vs (vs.map vInt)) (R := fun i _ v _ => ∃ (n : Nat) (t' : Tok), v = .int (n : Int) t' ∧ skipF (thoseB (vs.map vInt)) (bs.map UInt8.toNat) i = n) (fun i => (skip_cl bs t i ti d vs _).post fun _ v _ ⟨t', e⟩ => ⟨_, t', e, rfl⟩) z
theorem seek_clZ (bs : List UInt8) (t : Tok) (z : Int) (ti : Tok) (d : Addr) (vs : List Value) : Cl w mean mg mb 1 84 [.bytes bs.toArray t, .int z ti, .ref d] (fun h => 0 ≤ z ∧ bs.length ≤ 1000000 ∧ IsTup h d vs.toArray ∧ IntsAre vs (vs.map vInt)) (fun _ v _ => ∃ (n : Nat) (t' : Tok), v = .int (n : Int) t' ∧ skipF (fun n => !thoseB (vs.map vInt) n) (bs.map UInt8.toNat) z.toNat = n) :=
  Cl.ofNat (vs := fun z => [.bytes bs.toArray t, .int z ti, .ref d]) (pre := fun _ h => bs.length ≤ 1000000 ∧ IsTup h d vs.toArray ∧ IntsAre vs (vs.map vInt)) (R := fun i _ v _ => ∃ (n : Nat) (t' : Tok), v = .int (n : Int) t' ∧ skipF (fun n => !thoseB (vs.map vInt) n) (bs.map UInt8.toNat) i = n) (fun i => (seek_cl bs t i ti d vs _).post fun _ v _ ⟨t', e⟩ => ⟨_, t', e, rfl⟩) z
theorem linesF4_2 : True := by
  k_with "call ref" => ((k_here; with_reducible refine my_at 42 ?_); k_dflt ((refine' Cl.useS (lower_text_cl _ _) ?k1 ?k2 ?k3 ?k4 ?k5 ?kK ?kd ?ku ?kp ?_; (case k1 => k_asm); (case k2 => k_asm); (case k3 => k_asm); (case k4 => k_asm); (case k5 => k_asm); (case kK => first | exact rfl | assumption); (case kd => (try dsimp only); omega); (case ku => (try dsimp only); omega)); (case kp => first | exact trivial | k_asm); k_whole); (intro h9 tk9 F9 N9 t9; try k_sweep))
  k_with "eval ListComp" => refine Stop.out ?_
  trivial
theorem folded_cl (bs : List UInt8) (t : Tok) : Cl w mean mg mb 4 89 [.bytes bs.toArray t] (fun h => bs.length ≤ 1000000) (fun _ v _ => ∃ t', v = .str ⟨((bs.map UInt8.toNat).map lowN).toArray⟩ t') := by
  refine cl_of (binds := [(PySem.Str.ofString "octets", _)]) (by k_is) (by k_is) (fun s => BindsTo.of_eq rfl) (locs rfl) (by decide) rfl rfl rfl ?_
  intro dp un gd outer A₀ base g L h₁ s B' F' X' N' T' hdp hun hD hpre hs
  subst hs
  (try dsimp only [kstB, List.reverse, List.reverseAux] at F')
  (try dsimp only)
  k_fold
  k_steps
  rename Fr _ _ _ _ => F1
  rename News _ _ _ _ => N1
  unfold Stop
  refine my_ListComp (cl := []) F1 rfl (by decide) rfl (by decide) rfl ?_
  walk1
  refine my_comp_bytes rfl F1 N1 (by show bs.length ≤ _; exact Nat.le_trans hpre (by decide)) fun g' => my_rest (fun i ys => StrsAre ys ((bs.take i).map fun c => ⟨#[c.toNat]⟩)) trivial ?_ ?_ _ 0 [] (Nat.zero_add _) .nil
  · rintro i ys v I oI C oC D m₂ h tk E' hi ⟨c, u, hc, rfl⟩ hv hNs hx F N off hne
    k_fold
    have hc1 : (c.toNat : Int) < 256 := by have := c.toNat_lt; omega
    k_steps
    ((try dsimp only); (rename Fr _ _ _ _ => Fe); (rename News _ _ _ _ => Ne); refine CEnd.intro Fe Ne (by with_unfolding_all k_allIn) ?_)
    have hc' : bs[i]? = some c := by simpa using hc
    rw [List.take_add_one, hc', List.map_append]
    exact hv.append' (.cons _ _ .nil)
  · intro ys hv D h tk F N off
    k_steps
    have hv' : StrsAre ys.toArray.toList ((bs.take bs.toArray.size).map fun c => ⟨#[c.toNat]⟩) := hv
    rw [List.take_of_length_le (by simp)] at hv'
    refine join_list (News.isList (by assumption) (.head _)) hv' ?_ ?_
    · exact ones_ok _ _ hpre
    · intro t' k
      have hj : Txt.join (PySem.Str.ofString "") (bs.map fun c => (⟨#[c.toNat]⟩ : Str)) = ⟨(bs.map UInt8.toNat).toArray⟩ := by
        have := join_map _root_.id (bs.map UInt8.toNat)
        simpa [List.map_map, Function.comp_def] using this
      rw [hj]
      have hp : (⟨(bs.map UInt8.toNat).toArray⟩ : Str).length ≤ 1000000 := by
        show (bs.map UInt8.toNat).toArray.size ≤ _
        simpa using hpre
      k_steps
      ((try dsimp only [MyPost, WPost, XPost]); (try k_unfold); (try dsimp only [MyPost, WPost, XPost]); (try k_unfold); (try dsimp only [MyPost, WPost, XPost]); (try k_unfold); (try dsimp only); refine Done.intro (by assumption) ?_)
      exact strv (by simp [lowT])
end Mine
end
section
open PySem PySem.W PyProof.Rows PySem.Calls PyProof.Rows.LCg
set_option maxRecDepth 100000
set_option maxHeartbeats 8000000
namespace Mine
theorem sectF5 : True := by
  w_top off
  k_with_none
  trivial
variable {w : World} {mean : ExcName → Option Value} {mg mb : Str → Option Value}
section
variable {prog : Program} {A : Around} {E : Value → Shared → Prop} {s : Shared} {value slice : PySem.Expr} {t : Tok} {h₀ : Heap} {L : Addr} {m : PySem.Str → Option Value} {news : List (Addr × Obj)} {Q : Value → Shared → Prop}
theorem bInts_inj {a b : Array UInt8} (h : KBw.bInts a = KBw.bInts b) : a = b := by
  apply Array.toList_inj.mp
  have := (List.map_inj_right (f := fun c : UInt8 => (c.toNat : Int)) (fun x y e => by
    have e' : x.toNat = y.toNat := by exact_mod_cast e
    exact UInt8.toNat_inj.mp e')).mp h
  exact this
theorem bslice {bs : List UInt8} {lo hi : Int} {tl tu : Tok} (hF : Fr h₀ L s.heap m) (hN : News h₀ L s.heap news) (hz : bs.length ≤ 1000000) (h0 : 0 ≤ lo) (h1 : 0 ≤ hi)
    (h : ∀ h' t' k, Fr h₀ L h' m → News h₀ L h' news → Q (.bytes (cutL bs lo.toNat hi.toNat).toArray t') { s with heap := h', toks := k })
    (hs : subscripted slice false (.bytes bs.toArray t) (.ref s.heap.objs.size) = operate [.ref s.heap.objs.size, .bytes bs.toArray t] (getItem (.bytes bs.toArray t) (.ref s.heap.objs.size)) := by with_unfolding_all rfl)
    (ht : ∀ r, letTemporaryGo value (.bytes bs.toArray t) r = pure () := by intro _; with_unfolding_all rfl) :
    wpAny (model prog w) A (subscriptTail value slice (.bytes bs.toArray t) (.ref s.heap.objs.size)) Q E { s with heap := s.heap.push { cls := .type "slice", data := .fields #[.int lo tl, .int hi tu, .none] } } := by
  obtain ⟨a, rfl⟩ := Int.eq_ofNat_of_zero_le h0
  obtain ⟨b, rfl⟩ := Int.eq_ofNat_of_zero_le h1
  refine KBc.slice_K (b := bs.toArray) (lo := some (a : Int)) (hi := some (b : Int)) hF hN rfl (.int _ _) (.int _ _) (by rw [KBw.ints_length]; simp only [List.size_toArray]; omega) (fun h' t' k F N e => ?_) hs ht
  have e2 : KBy.picked bs.toArray (some (a : Int)) (some (b : Int)) = (cutL bs a b).toArray := by
    apply bInts_inj
    rw [e]
    simp only [Option.elim, clipAt_nat, KBw.ints_list, KBw.ints_length, List.length_map, List.size_toArray, cutL]
    rw [List.map_take, List.map_drop]
    generalize hl : bs.map (fun c => (c.toNat : Int)) = l
    have hll : bs.length = l.length := by rw [← hl, List.length_map]
    try rw [hll]
    exact cut_min l a b
  rw [e2]
  have := h h' t' k F N
  simpa using this
end
theorem linesF5_1 : True := by
  k_with "subscriptTail" => (k_here; (with_reducible show wpAny _ _ (subscriptTail _ (Expr.Slice _ _ none _) (Value.bytes _ _) (Value.ref _)) _ _ _); (with_reducible rename Fr _ _ _ _ => F'); (with_reducible rename News _ _ _ _ => N'); (refine bslice (s := ⟨_, _, _, _, _⟩) F' N' (by k_asm) (by omega) (by omega) ?_); intro h9 t9 tk9 F9 N9; (try k_sweep))
  k_with "pre5" => (refine kp4 (by k_asm) (by k_mem) ?_ ?_ ?_ <;> first | omega | k_asm | exact Int.natCast_nonneg _ | (repeat (first | exact IntsAre.nil | refine IntsAre.cons _ _ ?_)))
  k_with "call ref" => first | ((k_here; with_reducible refine my_at 89 ?_); k_dflt ((refine' Cl.useS (folded_cl _ _) ?k1 ?k2 ?k3 ?k4 ?k5 ?kK ?kd ?ku ?kp ?_; (case k1 => k_asm); (case k2 => k_asm); (case k3 => k_asm); (case k4 => k_asm); (case k5 => k_asm); (case kK => first | exact rfl | assumption); (case kd => (try dsimp only); omega); (case ku => (try dsimp only); omega)); (case kp => (simp only [cutL, List.length_take, List.length_drop]; omega)); k_whole); (intro h9 tk9 F9 N9 t9; try k_sweep)) | ((k_here; with_reducible refine my_at 70 ?_); k_dflt ((refine' Cl.useG (gaps_cl) ?k1 ?k2 ?k3 ?k4 ?k5 ?kK ?kd ?ku ?kp ?_; (case k1 => k_asm); (case k2 => k_asm); (case k3 => k_asm); (case k4 => k_asm); (case k5 => k_asm); (case kK => first | exact rfl | assumption); (case kd => (try dsimp only); omega); (case ku => (try dsimp only); omega)); (case kp => first | exact trivial | k_asm); k_whole); (intro t91 t92 t93 t94 t95 x9 h9 tk9 F9 N9; try k_sweep)) | ((k_here; with_reducible refine my_at 77 ?_); k_dflt ((refine' Cl.useN (skip_clZ _ _ _ _ _ _) ?k1 ?k2 ?k3 ?k4 ?k5 ?kK ?kd ?ku ?kp ?_; (case k1 => k_asm); (case k2 => k_asm); (case k3 => k_asm); (case k4 => k_asm); (case k5 => k_asm); (case kK => first | exact rfl | assumption); (case kd => (try dsimp only); omega); (case ku => (try dsimp only); omega)); (case kp => walk_at "pre5"); k_whole); (intro h9 tk9 F9 N9 n9 t9 q9; (try simp only [List.map_cons, List.map_nil, vInt, Int.toNat_natCast, toNat_succ] at q9); try k_sweep)) | ((k_here; with_reducible refine my_at 84 ?_); k_dflt ((refine' Cl.useN (seek_clZ _ _ _ _ _ _) ?k1 ?k2 ?k3 ?k4 ?k5 ?kK ?kd ?ku ?kp ?_; (case k1 => k_asm); (case k2 => k_asm); (case k3 => k_asm); (case k4 => k_asm); (case k5 => k_asm); (case kK => first | exact rfl | assumption); (case kd => (try dsimp only); omega); (case ku => (try dsimp only); omega)); (case kp => walk_at "pre5"); k_whole); (intro h9 tk9 F9 N9 n9 t9 q9; (try simp only [List.map_cons, List.map_nil, vInt, Int.toNat_natCast, toNat_succ] at q9); try k_sweep))
  trivial
def foldB (l : List UInt8) : Str := ⟨((l.map UInt8.toNat).map lowN).toArray⟩
abbrev gapsL : List Int := [9, 10, 12, 13, 32]
def gA (bs : List UInt8) (i : Nat) : Option (Str × Str × Int) :=
  let l := bs.map UInt8.toNat
  let a1 := skipF (thoseB [9, 10, 12, 13, 32, 47]) l i
  if bs.length ≤ a1 then none else if (bs.getD a1 0).toNat = 62 then none else
  let a2 := skipF (fun n => !thoseB [9, 10, 12, 13, 32, 47, 61, 62] n) l (a1 + 1)
  let name := foldB (cutL bs a1 a2)
  let a3 := skipF (thoseB gapsL) l a2
  if bs.length ≤ a3 then none else if (bs.getD a3 0).toNat ≠ 61 then some (name, PySem.Str.ofString "", (a3 : Int)) else
  let a4 := skipF (thoseB gapsL) l (a3 + 1)
  if bs.length ≤ a4 then none else
  let q := (bs.getD a4 0).toNat
  if q = 34 ∨ q = 39 then
    let e := skipF (fun n => !thoseB [(q : Int)] n) l (a4 + 1)
    if bs.length ≤ e then none else some (name, foldB (cutL bs (a4 + 1) e), (e : Int) + 1)
  else
    let e := skipF (fun n => !thoseB [9, 10, 12, 13, 32, 62] n) l a4
    if bs.length ≤ e then none else some (name, foldB (cutL bs a4 e), (e : Int))
def gaR (r : Option (Str × Str × Int)) (g : Heap) (v : Value) (h' : Heap) : Prop :=
  match r with
  | none => v = .none
  | some (n, u, p) => ∃ t1 t2 t3, NewObj (tupO [.str n t1, .str u t2, .int p t3]) g v h'
theorem gaR_none {g h' : Heap} : gaR none g .none h' := rfl
theorem gaR_some {g h' : Heap} {n u : Str} {p : Int} {t1 t2 t3 : Tok} {L a : Addr} {news : List (Addr × Obj)} (N : News g L h' ((a, tupO [.str n t1, .str u t2, .int p t3]) :: news)) : gaR (some (n, u, p)) g (.ref a) h' := ⟨t1, t2, t3, NewObj.intro N (.head _)⟩
section
variable {bs : List UInt8} {i a1 a2 a3 a4 e : Nat}
abbrev lg (bs : List UInt8) : Int := ((bs.toArray.size : Nat) : Int)
abbrev oc (bs : List UInt8) (a : Nat) : Int := ((bs.getD (a : Int).toNat 0).toNat : Int)
theorem ga1 (h1 : skipF (thoseB [9, 10, 12, 13, 32, 47]) (bs.map UInt8.toNat) i = a1) (g1 : lg bs ≤ (a1 : Int)) : gA bs i = none := by
  simp only [lg, List.size_toArray, Int.ofNat_le] at g1
  simp only [gA, h1, g1, if_true]
theorem ga2 (h1 : skipF (thoseB [9, 10, 12, 13, 32, 47]) (bs.map UInt8.toNat) i = a1) (g1 : ¬ lg bs ≤ (a1 : Int)) (g2 : oc bs a1 = 62) : gA bs i = none := by
  simp only [lg, oc, List.size_toArray, Int.ofNat_le, Int.toNat_natCast] at g1 g2
  have g2' : (bs.getD a1 0).toNat = 62 := by omega
  simp only [gA, h1, g1, g2', if_true, if_false]
theorem ga3 (h1 : skipF (thoseB [9, 10, 12, 13, 32, 47]) (bs.map UInt8.toNat) i = a1) (g1 : ¬ lg bs ≤ (a1 : Int)) (g2 : oc bs a1 ≠ 62) (h2 : skipF (fun n => !thoseB [9, 10, 12, 13, 32, 47, 61, 62] n) (bs.map UInt8.toNat) (a1 + 1) = a2)
    (h3 : skipF (thoseB [9, 10, 12, 13, 32]) (bs.map UInt8.toNat) a2 = a3) (g3 : lg bs ≤ (a3 : Int)) : gA bs i = none := by
  simp only [lg, oc, List.size_toArray, Int.ofNat_le, Int.toNat_natCast] at g1 g2 g3
  have g2' : ¬ (bs.getD a1 0).toNat = 62 := by omega
  simp only [gA, h1, g1, g2', h2, h3, g3, if_true, if_false]
theorem ga4 (h1 : skipF (thoseB [9, 10, 12, 13, 32, 47]) (bs.map UInt8.toNat) i = a1) (g1 : ¬ lg bs ≤ (a1 : Int)) (g2 : oc bs a1 ≠ 62) (h2 : skipF (fun n => !thoseB [9, 10, 12, 13, 32, 47, 61, 62] n) (bs.map UInt8.toNat) (a1 + 1) = a2)
    (h3 : skipF (thoseB [9, 10, 12, 13, 32]) (bs.map UInt8.toNat) a2 = a3) (g3 : ¬ lg bs ≤ (a3 : Int)) (g4 : oc bs a3 ≠ 61) : gA bs i = some (foldB (cutL bs a1 a2), PySem.Str.ofString "", (a3 : Int)) := by
  simp only [lg, oc, List.size_toArray, Int.ofNat_le, Int.toNat_natCast] at g1 g2 g3 g4
  have g2' : ¬ (bs.getD a1 0).toNat = 62 := by omega
  have g4' : (bs.getD a3 0).toNat ≠ 61 := by omega
  simp only [gA, h1, g1, g2', h2, h3, g3, g4', if_true, if_false, ne_eq, not_false_eq_true]
theorem ga5 (h1 : skipF (thoseB [9, 10, 12, 13, 32, 47]) (bs.map UInt8.toNat) i = a1) (g1 : ¬ lg bs ≤ (a1 : Int)) (g2 : oc bs a1 ≠ 62) (h2 : skipF (fun n => !thoseB [9, 10, 12, 13, 32, 47, 61, 62] n) (bs.map UInt8.toNat) (a1 + 1) = a2)
    (h3 : skipF (thoseB [9, 10, 12, 13, 32]) (bs.map UInt8.toNat) a2 = a3) (g3 : ¬ lg bs ≤ (a3 : Int)) (g4 : oc bs a3 = 61) (h4 : skipF (thoseB [9, 10, 12, 13, 32]) (bs.map UInt8.toNat) (a3 + 1) = a4) (g5 : lg bs ≤ (a4 : Int)) : gA bs i = none := by
  simp only [lg, oc, List.size_toArray, Int.ofNat_le, Int.toNat_natCast] at g1 g2 g3 g4 g5
  have g2' : ¬ (bs.getD a1 0).toNat = 62 := by omega
  have g4' : (bs.getD a3 0).toNat = 61 := by omega
  simp only [gA, h1, g1, g2', h2, h3, g3, g4', h4, g5, if_true, if_false, ne_eq, not_true_eq_false]
theorem quote_or {k : Nat} : ([34, 39].any fun x => x == (k : Int)) = decide (k = 34 ∨ k = 39) := by
  rw [Bool.eq_iff_iff]; simp; omega
theorem ga6 (h1 : skipF (thoseB [9, 10, 12, 13, 32, 47]) (bs.map UInt8.toNat) i = a1) (g1 : ¬ lg bs ≤ (a1 : Int)) (g2 : oc bs a1 ≠ 62) (h2 : skipF (fun n => !thoseB [9, 10, 12, 13, 32, 47, 61, 62] n) (bs.map UInt8.toNat) (a1 + 1) = a2)
    (h3 : skipF (thoseB [9, 10, 12, 13, 32]) (bs.map UInt8.toNat) a2 = a3) (g3 : ¬ lg bs ≤ (a3 : Int)) (g4 : oc bs a3 = 61) (h4 : skipF (thoseB [9, 10, 12, 13, 32]) (bs.map UInt8.toNat) (a3 + 1) = a4) (g5 : ¬ lg bs ≤ (a4 : Int))
    (g6 : ([34, 39].any fun x => x == oc bs a4) = true) (h5 : skipF (fun n => !thoseB [((bs.getD a4 0).toNat : Int)] n) (bs.map UInt8.toNat) (a4 + 1) = e) (g7 : lg bs ≤ (e : Int)) : gA bs i = none := by
  simp only [lg, oc, List.size_toArray, Int.ofNat_le, Int.toNat_natCast, quote_or, decide_eq_true_eq] at g1 g2 g3 g4 g5 g6 g7 h5
  have g2' : ¬ (bs.getD a1 0).toNat = 62 := by omega
  have g4' : (bs.getD a3 0).toNat = 61 := by omega
  simp only [gA, h1, g1, g2', h2, h3, g3, g4', h4, g5, g6, h5, g7, if_true, if_false, ne_eq, not_true_eq_false]
theorem ga7 (h1 : skipF (thoseB [9, 10, 12, 13, 32, 47]) (bs.map UInt8.toNat) i = a1) (g1 : ¬ lg bs ≤ (a1 : Int)) (g2 : oc bs a1 ≠ 62) (h2 : skipF (fun n => !thoseB [9, 10, 12, 13, 32, 47, 61, 62] n) (bs.map UInt8.toNat) (a1 + 1) = a2)
    (h3 : skipF (thoseB [9, 10, 12, 13, 32]) (bs.map UInt8.toNat) a2 = a3) (g3 : ¬ lg bs ≤ (a3 : Int)) (g4 : oc bs a3 = 61) (h4 : skipF (thoseB [9, 10, 12, 13, 32]) (bs.map UInt8.toNat) (a3 + 1) = a4) (g5 : ¬ lg bs ≤ (a4 : Int))
    (g6 : ([34, 39].any fun x => x == oc bs a4) = true) (h5 : skipF (fun n => !thoseB [((bs.getD a4 0).toNat : Int)] n) (bs.map UInt8.toNat) (a4 + 1) = e) (g7 : ¬ lg bs ≤ (e : Int)) : gA bs i = some (foldB (cutL bs a1 a2), foldB (cutL bs (a4 + 1) e), (e : Int) + 1) := by
  simp only [lg, oc, List.size_toArray, Int.ofNat_le, Int.toNat_natCast, quote_or, decide_eq_true_eq] at g1 g2 g3 g4 g5 g6 g7 h5
  have g2' : ¬ (bs.getD a1 0).toNat = 62 := by omega
  have g4' : (bs.getD a3 0).toNat = 61 := by omega
  simp only [gA, h1, g1, g2', h2, h3, g3, g4', h4, g5, g6, h5, g7, if_true, if_false, ne_eq, not_true_eq_false]
theorem ga8 (h1 : skipF (thoseB [9, 10, 12, 13, 32, 47]) (bs.map UInt8.toNat) i = a1) (g1 : ¬ lg bs ≤ (a1 : Int)) (g2 : oc bs a1 ≠ 62) (h2 : skipF (fun n => !thoseB [9, 10, 12, 13, 32, 47, 61, 62] n) (bs.map UInt8.toNat) (a1 + 1) = a2)
    (h3 : skipF (thoseB [9, 10, 12, 13, 32]) (bs.map UInt8.toNat) a2 = a3) (g3 : ¬ lg bs ≤ (a3 : Int)) (g4 : oc bs a3 = 61) (h4 : skipF (thoseB [9, 10, 12, 13, 32]) (bs.map UInt8.toNat) (a3 + 1) = a4) (g5 : ¬ lg bs ≤ (a4 : Int))
    (g6 : ([34, 39].any fun x => x == oc bs a4) = false) (h5 : skipF (fun n => !thoseB [9, 10, 12, 13, 32, 62] n) (bs.map UInt8.toNat) a4 = e) (g7 : lg bs ≤ (e : Int)) : gA bs i = none := by
  simp only [lg, oc, List.size_toArray, Int.ofNat_le, Int.toNat_natCast, quote_or, decide_eq_false_iff_not] at g1 g2 g3 g4 g5 g6 g7 h5
  have g2' : ¬ (bs.getD a1 0).toNat = 62 := by omega
  have g4' : (bs.getD a3 0).toNat = 61 := by omega
  simp only [gA, h1, g1, g2', h2, h3, g3, g4', h4, g5, g6, h5, g7, if_true, if_false, ne_eq, not_true_eq_false]
theorem ga9 (h1 : skipF (thoseB [9, 10, 12, 13, 32, 47]) (bs.map UInt8.toNat) i = a1) (g1 : ¬ lg bs ≤ (a1 : Int)) (g2 : oc bs a1 ≠ 62) (h2 : skipF (fun n => !thoseB [9, 10, 12, 13, 32, 47, 61, 62] n) (bs.map UInt8.toNat) (a1 + 1) = a2)
    (h3 : skipF (thoseB [9, 10, 12, 13, 32]) (bs.map UInt8.toNat) a2 = a3) (g3 : ¬ lg bs ≤ (a3 : Int)) (g4 : oc bs a3 = 61) (h4 : skipF (thoseB [9, 10, 12, 13, 32]) (bs.map UInt8.toNat) (a3 + 1) = a4) (g5 : ¬ lg bs ≤ (a4 : Int))
    (g6 : ([34, 39].any fun x => x == oc bs a4) = false) (h5 : skipF (fun n => !thoseB [9, 10, 12, 13, 32, 62] n) (bs.map UInt8.toNat) a4 = e) (g7 : ¬ lg bs ≤ (e : Int)) : gA bs i = some (foldB (cutL bs a1 a2), foldB (cutL bs a4 e), (e : Int)) := by
  simp only [lg, oc, List.size_toArray, Int.ofNat_le, Int.toNat_natCast, quote_or, decide_eq_false_iff_not] at g1 g2 g3 g4 g5 g6 g7 h5
  have g2' : ¬ (bs.getD a1 0).toNat = 62 := by omega
  have g4' : (bs.getD a3 0).toNat = 61 := by omega
  simp only [gA, h1, g1, g2', h2, h3, g3, g4', h4, g5, g6, h5, g7, if_true, if_false, ne_eq, not_true_eq_false]
end
theorem get_attribute_cl (bs : List UInt8) (t : Tok) (i : Nat) (ti : Tok) : Cl w mean mg mb 5 96 [.bytes bs.toArray t, .int (i : Int) ti] (fun h => bs.length ≤ 1000000) (fun g v h' => gaR (gA bs i) g v h') := by
  refine cl_of (binds := [(PySem.Str.ofString "octets", _), (PySem.Str.ofString "at", _)]) (by k_is) (by k_is) (fun s => BindsTo.of_eq rfl) (locs rfl) (by decide) rfl rfl rfl ?_
  intro dp un gd outer A₀ base g L h₁ s B' F' X' N' T' hdp hun hD hpre hs
  subst hs
  (try dsimp only [kstB, List.reverse, List.reverseAux] at F')
  (try dsimp only)
  k_fold
  k_steps
  all_goals ((try dsimp only [MyPost, WPost, XPost]); (try k_unfold); (try dsimp only [MyPost, WPost, XPost]); (try k_unfold); (try dsimp only [MyPost, WPost, XPost]); (try k_unfold); (try dsimp only); refine Done.intro (by assumption) ?_)
  all_goals with_reducible (first
    | (rw [ga1 (by assumption) (by assumption)]; exact gaR_none)
    | (rw [ga2 (by assumption) (by assumption) (by assumption)]; exact gaR_none)
    | (rw [ga3 (by assumption) (by assumption) (by assumption) (by assumption) (by assumption) (by assumption)]; exact gaR_none)
    | (rw [ga4 (by assumption) (by assumption) (by assumption) (by assumption) (by assumption) (by assumption) (by assumption)]; (rename News _ _ _ _ => N1); with_unfolding_all exact gaR_some N1)
    | (rw [ga5 (by assumption) (by assumption) (by assumption) (by assumption) (by assumption) (by assumption) (by assumption) (by assumption) (by assumption)]; exact gaR_none)
    | (rw [ga6 (by assumption) (by assumption) (by assumption) (by assumption) (by assumption) (by assumption) (by assumption) (by assumption) (by assumption) (by assumption) (by assumption) (by assumption)]; exact gaR_none)
    | (rw [ga7 (by assumption) (by assumption) (by assumption) (by assumption) (by assumption) (by assumption) (by assumption) (by assumption) (by assumption) (by assumption) (by assumption) (by assumption)]; (rename News _ _ _ _ => N1); with_unfolding_all exact gaR_some N1)
    | (rw [ga8 (by assumption) (by assumption) (by assumption) (by assumption) (by assumption) (by assumption) (by assumption) (by assumption) (by assumption) (by assumption) (by assumption) (by assumption)]; exact gaR_none)
    | (rw [ga9 (by assumption) (by assumption) (by assumption) (by assumption) (by assumption) (by assumption) (by assumption) (by assumption) (by assumption) (by assumption) (by assumption) (by assumption)]; (rename News _ _ _ _ => N1); with_unfolding_all exact gaR_some N1)
    | skip)

end Mine
end
section
open PySem PySem.W PyProof.Rows PySem.Calls PyProof.Rows.LCg
set_option maxRecDepth 100000
set_option maxHeartbeats 8000000
namespace Mine
theorem sectF6 : True := by
  w_top off
  k_with_none
  trivial
variable {w : World} {mean : ExcName → Option Value} {mg mb : Str → Option Value}
/-- the texts of a def that returns a written tuple or list of texts -/
def textsOf : PySem.Expr → List Str
  | .Tuple es _ _ => es.filterMap fun e => match e with | .Constant (.str x) _ _ => some x | _ => none
  | .List es _ => es.filterMap fun e => match e with | .Constant (.str x) _ _ => some x | _ => none
  | _ => []
def textsIn (n : Str) : List Str := (PR.main.body.filterMap fun st => match st with
  | .FunctionDef m _ [.Return (some e) _] _ _ _ _ _ _ _ => if m == n then some (textsOf e) else none
  | _ => none).flatten
def rowsL : List Str := textsIn (PySem.Str.ofString "label_rows")
def vStr : Value → Str
  | .str x _ => x
  | _ => ⟨#[]⟩
theorem strs_of : ∀ (vs : List Value), (∀ v ∈ vs, ∃ x t, v = .str x t) → StrsAre vs (vs.map vStr)
  | [], _ => .nil
  | v :: r, h => by
    obtain ⟨x, t, rfl⟩ := h v (.head _)
    exact .cons _ _ (strs_of r fun v hv => h v (.tail _ hv))
theorem NewStrs {ns : List Str} {vs : List Value} {g h' : Heap} {L a : Addr} {news : List (Addr × Obj)} (N : News g L h' ((a, tupO vs) :: news)) (hs : StrsAre vs (vs.map vStr)) (e : vs.map vStr = ns) : ∃ ws, StrsAre ws ns ∧ NewObj (tupO ws) g (.ref a) h' :=
  ⟨vs, e ▸ hs, NewObj.intro N (.head _)⟩
theorem label_rows_cl : Cl w mean mg mb 1 49 [] (fun _ => True) (fun g v h' => ∃ ws, StrsAre ws rowsL ∧ NewObj (tupO ws) g v h') := by
  refine cl_of (binds := []) (by k_is) (by k_is) (fun s => BindsTo.of_eq rfl) (locs rfl) (by decide) rfl rfl rfl ?_
  intro dp un gd outer A₀ base g L h₁ s B' F' X' N' T' hdp hun hD hpre hs
  subst hs
  (try dsimp only [kstB, List.reverse, List.reverseAux] at F')
  (try dsimp only)
  k_fold
  k_steps
  ((try dsimp only [MyPost, WPost, XPost]); (try k_unfold); (try dsimp only [MyPost, WPost, XPost]); (try k_unfold); (try dsimp only [MyPost, WPost, XPost]); (try k_unfold); (try dsimp only); refine Done.intro (by assumption) ?_)
  rename News _ _ _ _ => N1
  refine NewStrs N1 ?_ ?_
  · repeat (first | exact StrsAre.nil | refine StrsAre.cons _ _ ?_)
  · with_unfolding_all rfl
section
variable {prog : Program} {A : Around} {E : Value → Shared → Prop} {s : Shared} {env : Env} {h₀ : Heap} {x : Str} {body : List Stmt} {Q : Flow → Shared → Prop} {σ : Type}
theorem my_tuple {l : Addr} {vs : Array Value} {m₀ : Str → Option Value} (Led : σ → List (Addr × Obj)) (Mp : σ → Str → Option Value) (P : Nat → σ → Prop) (c₀ : σ)
    (hh : A.handled = none) (hl : s.heap.IsTuple l vs) (hlL : l ≠ env.locals) (hlN : ∀ q ∈ Led c₀, q.1 ≠ l) (F : Fr h₀ env.locals s.heap m₀) (N : News h₀ env.locals s.heap (Led c₀)) (hm : ∀ z, z ≠ x → m₀ z = Mp c₀ z) (hp : P 0 c₀)
    (turn : ∀ i c v h tk own, vs[i]? = some v → OwnOff own ((Led c₀).map (·.1)) → P i c → (Led c).map (·.1) = (Led c₀).map (·.1) → Fr h₀ env.locals h (fun y => if y = x then some v else Mp c y) → News h₀ env.locals h (Led c ++ own) →
      wpAny (model prog w) A (execs body env) (MyPost h₀ env.locals Led Mp x (P (i + 1)) own ((Led c₀).map (·.1)) { s with heap := h, toks := tk } Q) E { s with heap := h, toks := tk })
    (done : ∀ c u h tk, P vs.size c → (Led c).map (·.1) = (Led c₀).map (·.1) → Fr h₀ env.locals h (fun y => if y = x then u else Mp c y) → News h₀ env.locals h (Led c) → Q .next { s with heap := h, toks := tk }) :
    wpAny (model prog w) A (pyIter (.ref l)) (fun it s₂ => LoopAtV prog w A h₀ env x body Q E it s₂) E s := by
  obtain ⟨ol, hol, hol2⟩ := id hl
  have hlt : l < s.heap.objs.size := Heap.lt_size hol
  have hne : l ≠ s.heap.objs.size := Nat.ne_of_lt hlt
  refine wpAny_pyIter_tuple hl ?_
  have W := Walks.tuple (prog := prog) (w := w) hh s.heap.objs.size l hne vs
  refine my_walk Led Mp P c₀ W ?_ ?_ ?_ ?_ ⟨⟨_, Heap.get?_push_size _ rfl, rfl, rfl⟩, ⟨ol, Heap.get?_push_of_some _ hol, hol2⟩⟩ (F.push _) (fun p hp => ⟨Heap.get?_push_of_some _ (N p hp).1, (N p hp).2⟩) hm hp ?_ ?_
  · intro hm
    rcases List.mem_cons.mp hm with e | hm
    · exact absurd F.ns.lt (e ▸ Nat.lt_irrefl _)
    · exact hlL (List.mem_singleton.mp hm).symm
  · intro b' hb
    rw [List.mem_singleton.mp hb]
    exact next_is_new F
  · intro p hp hI
    exact absurd (Heap.lt_size (N p hp).1) ((List.mem_singleton.mp hI) ▸ Nat.lt_irrefl _)
  · intro p hp hI
    rcases List.mem_cons.mp hI with e | hI
    · exact absurd (Heap.lt_size (N p hp).1) (e ▸ Nat.lt_irrefl _)
    · exact hlN p hp (List.mem_singleton.mp hI)
  · rintro i c v h tk own _ hv hoff hc hadr F₁ N₁
    exact turn i c v h tk own hv hoff hc hadr F₁ N₁
  · intro c u h tk hc hadr F₁ N₁
    exact done c u h tk hc hadr F₁ N₁
end
open Builtin.Str in
theorem idx_clip (a b n : Nat) : strSliceIndices (some (a : Int)) (some (b : Int)) 1 n = strSliceIndices (some ((min a n : Nat) : Int)) (some ((max (min a n) (min b n) : Nat) : Int)) 1 n := by
  simp only [strSliceIndices, show (1 : Int) > 0 by decide, if_true, show ∀ k : Nat, ¬ ((k : Int) < 0) by omega, if_false]
  have e1 : max 0 (min (a : Int) (n : Int)) = ((min a n : Nat) : Int) := by omega
  have e2 : max 0 (min (b : Int) (n : Int)) = ((min b n : Nat) : Int) := by omega
  have e3 : max 0 (min ((min a n : Nat) : Int) (n : Int)) = ((min a n : Nat) : Int) := by omega
  have e4 : max 0 (min ((max (min a n) (min b n) : Nat) : Int) (n : Int)) = ((max (min a n) (min b n) : Nat) : Int) := by omega
  rw [e1, e2, e3, e4, sliceRange_one, sliceRange_one]
  have e5 : max (min a n) (min b n) - min a n = min b n - min a n := by omega
  rw [e5]
open Builtin.Str in
theorem txt_slice (x : Str) (a b : Nat) : Txt.slice x (some (a : Int)) (some (b : Int)) = ⟨(cutL x.cps.toList a b).toArray⟩ := by
  show StrLaws.sliceText x (some (a : Int)) (some (b : Int)) = _
  have h : StrLaws.sliceText x (some (a : Int)) (some (b : Int)) = StrLaws.sliceText x (some ((min a x.length : Nat) : Int)) (some ((max (min a x.length) (min b x.length) : Nat) : Int)) := by
    unfold StrLaws.sliceText
    rw [idx_clip]
  rw [h, StrLaws.sliceText_nat x (Nat.le_max_left _ _) (by omega)]
  have hl : x.length = x.cps.toList.length := rfl
  have : ((x.cps.toList.drop (min a x.length)).take (max (min a x.length) (min b x.length) - min a x.length)) = cutL x.cps.toList a b := by
    rw [hl]
    have e : max (min a x.cps.toList.length) (min b x.cps.toList.length) - min a x.cps.toList.length = min b x.cps.toList.length - min a x.cps.toList.length := by omega
    rw [e]
    exact cut_min _ _ _
  rw [this]
theorem slice_len (x : Str) (a b : Nat) : (Txt.slice x (some (a : Int)) (some (b : Int))).length ≤ x.length := by
  rw [txt_slice]
  show (cutL x.cps.toList a b).toArray.size ≤ _
  simp only [cutL, List.size_toArray, List.length_take, List.length_drop, Array.length_toList]
  show _ ≤ x.cps.size
  omega
theorem toNat_0 : Int.toNat 0 = 0 := rfl
section
variable {prog : Program} {A : Around} {E : Value → Shared → Prop} {s : Shared} {h₀ : Heap} {L : Addr} {m : PySem.Str → Option Value} {news : List (Addr × Obj)} {x y : PySem.Str} {t u : Tok} {Q : Value → Shared → Prop}
theorem strs_pairs : ∀ (l : List (Str × Tok)), StrsAre (strValues l) (l.map (·.1))
  | [] => .nil
  | (a, t) :: r => .cons a t (strs_pairs r)
theorem my_split (hF : Fr h₀ L s.heap m) (hN : News h₀ L s.heap news) (hy : (y.length == 0) = false) (hsz : x.length ≤ 1000000)
    (h : ∀ n ls t0 r D h' k, Txt.split x y = n :: ls → StrsAre r ls → r.length ≤ 1000001 → Fr h₀ L h' m → News h₀ L h' ((D, listOf (.str n t0 :: r).toArray 0) :: news) → (∀ p ∈ news, p.1 < D) → Q (.ref D) { s with heap := h', toks := k }) :
    wpAny (model prog w) A (call (.builtin "str.split") [.str x t, .str y u]) Q E s := by
  refine KSpl.split1 hF hN hy (fun D l h' k e S F N l1 => ?_) (by rw [sizeLine_eq]; omega)
  cases l with
  | nil =>
    have := (fact_split x y).1
    rw [← e] at this; simp at this
  | cons p r =>
    obtain ⟨n, t0⟩ := p
    have e' : Txt.split x y = n :: r.map (·.1) := e.symm
    refine h n (r.map (·.1)) t0 (strValues r) D h' k e' (strs_pairs r) ?_ F N l1
    have h1 := (fact_split x y).2
    rw [e', List.length_cons, List.length_map] at h1
    have h2 : (strValues r).length = r.length := by simp [strValues]
    omega
theorem my_tail {v0 : Value} {r : List Value} {value slice : PySem.Expr} {l : Addr} {t1 : Tok} (F : Fr h₀ L s.heap m) (N : News h₀ L s.heap news) (hl : s.heap.IsList l (v0 :: r).toArray) (hz : r.length ≤ 1000001)
    (h : ∀ D h', Fr h₀ L h' m → News h₀ L h' ((D, listOf r.toArray 0) :: news) → (∀ p ∈ news, p.1 < D) → Q (.ref D) { s with heap := h' })
    (hs : subscripted slice false (.ref l) (.ref s.heap.objs.size) = operate [.ref s.heap.objs.size, .ref l] (getItem (.ref l) (.ref s.heap.objs.size)) := by with_unfolding_all rfl) (ht : ∀ r, letTemporaryGo value (.ref l) r = pure () := by intro _; with_unfolding_all rfl) :
    wpAny (model prog w) A (subscriptTail value slice (.ref l) (.ref s.heap.objs.size)) Q E { s with heap := s.heap.push { cls := .type "slice", data := .fields #[.int 1 t1, .none, .none] } } := by
  refine kmk_slice F N hl (.int 1 t1) .none (fun D h' F' N' l1 => h D h' F' ?_ l1) hs ht (by simp only [List.size_toArray, List.length_cons]; rw [sizeLine_eq]; omega)
  have e : slicePick (v0 :: r).toArray (some 1) none none = r.toArray := by
    have h1 : sliceBounds (some 1) none none (v0 :: r).toArray.size = (((1 : Nat) : Int), (((v0 :: r).toArray.size : Nat) : Int), 1) := by
      simp only [sliceBounds, Option.getD_none, show (1 : Int) > 0 by decide, if_true, show ¬ ((1 : Int) < 0) by decide, if_false, List.size_toArray, List.length_cons]
      congr 1
      omega
    rw [kmk_pick_nat _ h1]
    simp
  rw [← e]
  exact N'
end
theorem skip_spaces_clZ (x : Str) (t : Tok) (z : Int) (ti : Tok) : Cl w mean mg mb 2 56 [.str x t, .int z ti] (fun _ => 0 ≤ z ∧ x.length ≤ 1000000 ∧ z.toNat ≤ x.length) (fun _ v _ => ∃ (n : Nat) (t' : Tok), v = .int (n : Int) t' ∧ skipF spN x.cps.toList z.toNat = n) :=
  Cl.ofNat (vs := fun z => [.str x t, .int z ti]) (pre := fun i _ => x.length ≤ 1000000 ∧ i ≤ x.length) (R := fun i _ v _ => ∃ (n : Nat) (t' : Tok), v = .int (n : Int) t' ∧ skipF spN x.cps.toList i = n) (fun i => (skip_spaces_cl x t i ti).post fun _ v _ ⟨t', e⟩ => ⟨_, t', e, rfl⟩) z
theorem linesF6_1 : True := by
  k_with "call ref" => first | ((k_here; with_reducible refine my_at 21 ?_); k_dflt ((refine' Cl.useV (is_space_cl _ _) ?k1 ?k2 ?k3 ?k4 ?k5 ?kK ?kd ?ku ?kp ?_; (case k1 => k_asm); (case k2 => k_asm); (case k3 => k_asm); (case k4 => k_asm); (case k5 => k_asm); (case kK => first | exact rfl | assumption); (case kd => (try dsimp only); omega); (case ku => (try dsimp only); omega)); (case kp => first | exact trivial | k_asm); k_whole); (intro h9 tk9 F9 N9; try k_sweep)) | ((k_here; with_reducible refine my_at 42 ?_); k_dflt ((refine' Cl.useS (lower_text_cl _ _) ?k1 ?k2 ?k3 ?k4 ?k5 ?kK ?kd ?ku ?kp ?_; (case k1 => k_asm); (case k2 => k_asm); (case k3 => k_asm); (case k4 => k_asm); (case k5 => k_asm); (case kK => first | exact rfl | assumption); (case kd => (try dsimp only); omega); (case ku => (try dsimp only); omega)); (case kp => (first | k_asm | exact Nat.le_trans (slice_len _ _ _) (by k_asm))); k_whole); (intro h9 tk9 F9 N9 t9; try k_sweep)) | ((k_here; with_reducible refine my_at 56 ?_); k_dflt ((refine' Cl.useN (skip_spaces_clZ _ _ _ _) ?k1 ?k2 ?k3 ?k4 ?k5 ?kK ?kd ?ku ?kp ?_; (case k1 => k_asm); (case k2 => k_asm); (case k3 => k_asm); (case k4 => k_asm); (case k5 => k_asm); (case kK => first | exact rfl | assumption); (case kd => (try dsimp only); omega); (case ku => (try dsimp only); omega)); (case kp => (refine And.intro ?_ (And.intro ?_ ?_) <;> first | omega | exact Int.natCast_nonneg _ | exact Nat.zero_le _)); k_whole); (intro h9 tk9 F9 N9 n9 t9 q9; (try simp only [Int.toNat_natCast, toNat_succ, toNat_0] at q9); try k_sweep)) | ((k_here; with_reducible refine my_at 49 ?_); k_dflt ((refine' Cl.useW (label_rows_cl) ?k1 ?k2 ?k3 ?k4 ?k5 ?kK ?kd ?ku ?kp ?_; (case k1 => k_asm); (case k2 => k_asm); (case k3 => k_asm); (case k4 => k_asm); (case k5 => k_asm); (case kK => first | exact rfl | assumption); (case kd => (try dsimp only); omega); (case ku => (try dsimp only); omega)); (case kp => first | exact trivial | k_asm); k_whole); (intro ws9 hi9 x9 h9 tk9 F9 N9; try k_sweep))
  k_with "exec While BoolOp cons nil" => refine Stop.out ?_
  k_with "exec For Name Call cons nil" => refine Stop.out ?_
  trivial
theorem skipF_le {p : Nat → Bool} {l : List Nat} {i : Nat} (h : i ≤ l.length) : skipF p l i ≤ l.length := by
  unfold skipF
  have := (List.takeWhile_sublist p (l := l.drop i)).length_le
  rw [List.length_drop] at this
  omega
theorem skipF_ge {p : Nat → Bool} {l : List Nat} {i : Nat} : i ≤ skipF p l i := Nat.le_add_right _ _
/-- where the text between b and e ends, its last p-signs left out -/
def backF (p : Nat → Bool) (l : List Nat) (b e : Nat) : Nat := b + (((l.take e).drop b).reverse.dropWhile p).length
theorem backF_stop {p : Nat → Bool} {l : List Nat} {b : Nat} : backF p l b b = b := by
  unfold backF
  rw [List.drop_eq_nil_of_le (by rw [List.length_take]; omega)]; rfl
theorem back_snoc {l : List Nat} {b e n : Nat} (h : l[e]? = some n) (hb : b ≤ e) : (l.take (e + 1)).drop b = (l.take e).drop b ++ [n] := by
  obtain ⟨hi, rfl⟩ := List.getElem?_eq_some_iff.mp h
  rw [List.take_add_one, h, List.drop_append_of_le_length (by rw [List.length_take]; omega)]; rfl
theorem backF_step {p : Nat → Bool} {l : List Nat} {b e n : Nat} (h : l[e]? = some n) (hb : b ≤ e) (hp : p n = true) : backF p l b (e + 1) = backF p l b e := by
  unfold backF
  rw [back_snoc h hb, List.reverse_append]
  show b + (([n] ++ _).dropWhile p).length = _
  simp [List.dropWhile_cons, hp]
theorem backF_here {p : Nat → Bool} {l : List Nat} {b e n : Nat} (h : l[e]? = some n) (hb : b ≤ e) (hp : p n = false) : backF p l b (e + 1) = e + 1 := by
  obtain ⟨hi, _⟩ := List.getElem?_eq_some_iff.mp h
  unfold backF
  rw [back_snoc h hb, List.reverse_append]
  show b + (([n] ++ _).dropWhile p).length = _
  simp [List.dropWhile_cons, hp]
  omega
def encR (w row : Str) : Option Str :=
  match Txt.split row (PySem.Str.ofString " ") with
  | [] => none
  | n :: ls => if ls.any (· == w) then some n else none
theorem linesF6_2 : True := by
  k_with "call builtin:str.split" => (k_here; (try dsimp only [List.nil_append, List.cons_append]); (with_reducible show wpAny _ _ (call (Value.builtin "str.split") [Value.str _ _, Value.str _ _]) _ _ _); k_dflt (refine my_split (by k_asm) (by k_asm) (by first | decide +kernel | k_asm) (by k_asm) ?_); intro n9 ls9 t9 r9 D9 h9 tk9 e9 hs9 hl9 F9 N9 l9; (try k_lt l9); (try k_sweep))
  k_with "subscriptTail Name Slice ref ref" => (k_here; (with_reducible show wpAny _ _ (subscriptTail _ (Expr.Slice (some (Expr.Constant (Const.int 1) _ _)) none none _) (Value.ref _) (Value.ref _)) _ _ _); (with_reducible rename Fr _ _ _ _ => F'); (with_reducible rename News _ _ _ _ => N'); (refine my_tail (s := ⟨_, _, _, _, _⟩) F' N' (News.isList N' (by k_mem)) (by k_asm) ?_); intro D9 h9 F9 N9 l9; (try k_lt l9); (try k_sweep))
  trivial
def wantedE (x : Str) : Str := lowT ⟨(cutL x.cps.toList (skipF spN x.cps.toList 0) (backF spN x.cps.toList (skipF spN x.cps.toList 0) x.length)).toArray⟩
def encE (x : Str) : Option Str := rowsL.findSome? (encR (wantedE x))
def optR (r : Option Str) (v : Value) : Prop :=
  match r with
  | none => v = .none
  | some n => ∃ t, v = .str n t
theorem rows_short : ∀ r ∈ rowsL, r.length ≤ 1000000 := by
  have h : (rowsL.all fun r => decide (r.length ≤ 1000000)) = true := by decide +kernel
  intro r hr
  exact of_decide_eq_true (List.all_eq_true.mp h r hr)
theorem optR_some {r : Option Str} {n : Str} {t : Tok} (h : r = some n) : optR r (.str n t) := by subst h; exact ⟨t, rfl⟩
theorem optR_none {r : Option Str} (h : r = none) : optR r .none := by subst h; rfl
theorem find_hit {α β : Type} {f : α → Option β} {l : List α} {i : Nat} {a : α} {b : β} (h0 : (l.take i).findSome? f = none) (h : l[i]? = some a) (e : f a = some b) : l.findSome? f = some b := by
  obtain ⟨hi, rfl⟩ := List.getElem?_eq_some_iff.mp h
  have h2 : l = l.take i ++ l[i] :: l.drop (i + 1) := by simp
  rw [h2, List.findSome?_append, h0, List.findSome?_cons, e]; rfl
theorem find_miss {α β : Type} {f : α → Option β} {l : List α} {i : Nat} {a : α} (h0 : (l.take i).findSome? f = none) (h : l[i]? = some a) (e : f a = none) : (l.take (i + 1)).findSome? f = none := by
  rw [List.take_add_one, h, List.findSome?_append, h0]
  simp [e]
theorem encoding_of_cl (x : Str) (t : Tok) : Cl w mean mg mb 4 63 [.str x t] (fun _ => x.length ≤ 1000000) (fun _ v _ => optR (encE x) v) := by
  refine cl_of (binds := [(PySem.Str.ofString "label", _)]) (by k_is) (by k_is) (fun s => BindsTo.of_eq rfl) (locs rfl) (by decide) rfl rfl rfl ?_
  intro dp un gd outer A₀ base g L h₁ s B' F' X' N' T' hdp hun hD hpre hs
  subst hs
  (try dsimp only [kstB, List.reverse, List.reverseAux] at F')
  (try dsimp only)
  k_fold
  k_steps
  rename Fr _ _ _ _ => F1
  rename News _ _ _ _ => N1
  rename (skipF _ _ _ = _) => hq
  (try simp only [toNat_0] at hq)
  subst hq
  generalize hq : skipF spN x.cps.toList 0 = b at F1 ⊢
  unfold Stop
  have hx : x.length ≤ 1000000 := hpre
  have hb : b ≤ x.length := by rw [← hq]; exact skipF_le (Nat.zero_le _)
  refine my_while2 (σ := Nat × Tok) (fun _ => []) (mp1 (PySem.Str.ofString "end") (fun c => .int (c.1 : Int) c.2) _) (fun c => backF spN x.cps.toList b c.1 = backF spN x.cps.toList b x.length ∧ b ≤ c.1 ∧ c.1 ≤ x.length) (fun c => c.1 = backF spN x.cps.toList b x.length ∧ b ≤ c.1 ∧ c.1 ≤ x.length) (fun c => c.1) (x.length, _) F1 N1 (fun p hp => nomatch hp) (fun z => rfl) ⟨rfl, hb, Nat.le_refl _⟩ ?_ ?_ (by with_unfolding_all passes_own)
  · intro c h tk hc F N
    (try dsimp only [mp1] at F)
    obtain ⟨hc1, hc2, hc3⟩ := hc
    k_fold
    k_steps
    · rename isSp _ = _ => hs
      rename ((_ : Int) > _) => hlt
      obtain ⟨e, he⟩ : ∃ e, c.1 = e + 1 := ⟨c.1 - 1, by omega⟩
      obtain ⟨n, hn, hi⟩ := item_at (x := x) (i := e) (by omega)
      have h1 : ((c.1 : Int) - 1) = (e : Int) := by omega
      rw [h1, hi, isSp_one] at hs
      ((try dsimp only); (rename Fr _ _ _ _ => Fe); (rename News _ _ _ _ => Ne); refine WEnd.intro ((e, _)) Fe Ne (by (try dsimp only); first | exact List.forall_mem_nil _ | with_unfolding_all ((try simp only [List.nil_append, List.cons_append]); k_allIn)) (by refine splitA (PySem.Str.ofString "end") (by first | rfl | exact int_val (by omega)) ?_; intro z hz0 hz1; (try simp only [if_neg hz0]); (try simp only [if_neg hz1]); (try rfl)) ?_)
      refine ⟨⟨?_, ?_, ?_⟩, ?_⟩
      · rw [← hc1, he, backF_step hn (by omega) hs]
      · dsimp only; omega
      · dsimp only; omega
      · dsimp only; omega
    · rename isSp _ = _ => hs
      rename ((_ : Int) > _) => hlt
      obtain ⟨e, he⟩ : ∃ e, c.1 = e + 1 := ⟨c.1 - 1, by omega⟩
      obtain ⟨n, hn, hi⟩ := item_at (x := x) (i := e) (by omega)
      have h1 : ((c.1 : Int) - 1) = (e : Int) := by omega
      rw [h1, hi, isSp_one] at hs
      ((try dsimp only); (rename Fr _ _ _ _ => Fe); (rename News _ _ _ _ => Ne); refine XPost.out (WEnd.intro (c) Fe Ne (by (try dsimp only); first | exact List.forall_mem_nil _ | with_unfolding_all ((try simp only [List.nil_append, List.cons_append]); k_allIn)) (by intro z hz0; (try simp only [if_true]); (try simp only [if_neg hz0]); (try rfl)) ?_))
      exact ⟨by rw [← hc1, he, backF_here hn (by omega) hs], hc2, hc3⟩
    · rename (¬ _) => hlt
      ((try dsimp only); (rename Fr _ _ _ _ => Fe); (rename News _ _ _ _ => Ne); refine XPost.out (WEnd.intro (c) Fe Ne (by (try dsimp only); first | exact List.forall_mem_nil _ | with_unfolding_all ((try simp only [List.nil_append, List.cons_append]); k_allIn)) (by intro z hz0; (try simp only [if_true]); (try simp only [if_neg hz0]); (try rfl)) ?_))
      have h1 : c.1 = b := by omega
      exact ⟨by rw [← hc1, h1, backF_stop], hc2, hc3⟩
  · intro c h tk hc F N
    (try dsimp only [mp1] at F)
    obtain ⟨hc1, hc2, hc3⟩ := hc
    have hx2 : (Txt.slice x (some (b : Int)) (some (c.1 : Int))).length ≤ 1000000 := Nat.le_trans (slice_len _ _ _) hx
    k_steps
    rename Fr _ _ _ _ => F2
    rename News _ _ _ _ => N2
    unfold Stop
    refine For_invVF F2 rfl rfl ?_
    k_steps
    rename Fr _ _ _ _ => F3
    rename News _ _ _ _ => N3
    rename StrsAre _ _ => hS
    refine my_tuple (σ := Option Value) (fun _ => []) (mpo (PySem.Str.ofString "words") _) (fun i _ => (rowsL.take i).findSome? (encR (lowT (Txt.slice x (some (b : Int)) (some (c.1 : Int))))) = none) none rfl (News.isTup N3 (.head _)) ?_ (fun q hq => nomatch hq) F3 (fun p hp => nomatch hp) (mpo_start (by rfl)) (by rfl) ?_ ?_
    · exact (N3 _ (.head _)).2.1
    · intro i c' v h tk own hv hoff hc' hadr F N
      k_fold
      have hlt : i < rowsL.length := by
        rw [← hS.len_eq]
        have := (Array.getElem?_eq_some_iff.mp hv).1
        simpa using this
      obtain ⟨row, hrow⟩ : ∃ row, rowsL[i]? = some row := ⟨rowsL[i], by simp [hlt]⟩
      obtain ⟨tr, hr⟩ := hS.at hrow
      have hv' := hv
      simp only [List.getElem?_toArray] at hv'
      rw [hr] at hv'
      cases hv'
      have hrl : row.length ≤ 1000000 := rows_short _ (List.mem_of_getElem? hrow)
      k_steps
      · rename (Txt.split _ _ = _) => hsp
        rename (List.any _ _ = _) => han
        ((try dsimp only [MyPost, WPost, XPost]); (try k_unfold); (try dsimp only [MyPost, WPost, XPost]); (try k_unfold); (try dsimp only [MyPost, WPost, XPost]); (try k_unfold); (try dsimp only); refine Done.intro (by assumption) ?_)
        refine optR_some ?_
        rw [encE, wantedE, hq, ← hc1, ← txt_slice]
        refine find_hit hc' hrow ?_
        simp only [encR, hsp, han, if_true]
      · rename (Txt.split _ _ = _) => hsp
        rename (List.any _ _ = _) => han
        ((try dsimp only); (rename Fr _ _ _ _ => Fe); (rename News _ _ _ _ => Ne); refine MyEnd.intro (some _) Fe Ne (by (try dsimp only); first | exact List.forall_mem_nil _ | with_unfolding_all ((try simp only [List.nil_append, List.cons_append]); k_allIn)) (by intro p hp; (try simp only [List.nil_append, List.cons_append]); with_unfolding_all k_ownIn) (by rfl) (by refine splitA (PySem.Str.ofString "words") (by first | rfl | exact int_val (by omega)) ?_; intro z hz0 hz1; (try simp only [if_neg hz0]); (try simp only [if_neg hz1]); (try rfl)) ?_)
        refine find_miss hc' hrow ?_
        simp only [encR, hsp, han]
        rfl
    · intro c' u h tk hc' hadr F N
      k_steps
      ((try dsimp only [MyPost, WPost, XPost]); (try k_unfold); (try dsimp only [MyPost, WPost, XPost]); (try k_unfold); (try dsimp only [MyPost, WPost, XPost]); (try k_unfold); (try dsimp only); refine Done.intro (by assumption) ?_)
      refine optR_none ?_
      rw [encE, wantedE, hq, ← hc1, ← txt_slice]
      rw [List.size_toArray, hS.len_eq, List.take_length] at hc'
      exact hc'
end Mine
end
section
open PySem PySem.W PyProof.Rows PySem.Calls PyProof.Rows.LCg
set_option maxRecDepth 100000
set_option maxHeartbeats 8000000
namespace Mine
theorem sectF7 : True := by
  w_top off
  k_with_none
  trivial
variable {w : World} {mean : ExcName → Option Value} {mg mb : Str → Option Value}
theorem toNat_7 (a : Nat) : ((a : Int) + 7).toNat = a + 7 := by omega
theorem sliceZ_len (x : Str) {a b : Int} (ha : 0 ≤ a) (hb : 0 ≤ b) : (Txt.slice x (some a) (some b)).length ≤ x.length := by
  obtain ⟨i, rfl⟩ := Int.eq_ofNat_of_zero_le ha
  obtain ⟨j, rfl⟩ := Int.eq_ofNat_of_zero_le hb
  exact slice_len x i j
theorem optR.cases {r : Option Str} {v : Value} (h : optR r v) : (r = none ∧ v = .none) ∨ ∃ n t, r = some n ∧ v = .str n t := by
  cases r with
  | none => exact .inl ⟨rfl, h⟩
  | some n => obtain ⟨t, e⟩ := h; exact .inr ⟨n, t, rfl, e⟩
theorem linesF7_1 : True := by
  k_with "call ref" => first | ((k_here; with_reducible refine my_at 21 ?_); k_dflt ((refine' Cl.useV (is_space_cl _ _) ?k1 ?k2 ?k3 ?k4 ?k5 ?kK ?kd ?ku ?kp ?_; (case k1 => k_asm); (case k2 => k_asm); (case k3 => k_asm); (case k4 => k_asm); (case k5 => k_asm); (case kK => first | exact rfl | assumption); (case kd => (try dsimp only); omega); (case ku => (try dsimp only); omega)); (case kp => first | exact trivial | k_asm); k_whole); (intro h9 tk9 F9 N9; try k_sweep)) | ((k_here; with_reducible refine my_at 42 ?_); k_dflt ((refine' Cl.useS (lower_text_cl _ _) ?k1 ?k2 ?k3 ?k4 ?k5 ?kK ?kd ?ku ?kp ?_; (case k1 => k_asm); (case k2 => k_asm); (case k3 => k_asm); (case k4 => k_asm); (case k5 => k_asm); (case kK => first | exact rfl | assumption); (case kd => (try dsimp only); omega); (case ku => (try dsimp only); omega)); (case kp => (first | k_asm | exact Nat.le_trans (slice_len _ _ _) (by k_asm))); k_whole); (intro h9 tk9 F9 N9 t9; try k_sweep)) | ((k_here; with_reducible refine my_at 56 ?_); k_dflt ((refine' Cl.useN (skip_spaces_clZ _ _ _ _) ?k1 ?k2 ?k3 ?k4 ?k5 ?kK ?kd ?ku ?kp ?_; (case k1 => k_asm); (case k2 => k_asm); (case k3 => k_asm); (case k4 => k_asm); (case k5 => k_asm); (case kK => first | exact rfl | assumption); (case kd => (try dsimp only); omega); (case ku => (try dsimp only); omega)); (case kp => (refine And.intro ?_ (And.intro ?_ ?_) <;> first | omega | exact Int.natCast_nonneg _ | exact Nat.zero_le _)); k_whole); (intro h9 tk9 F9 N9 n9 t9 q9; (try simp only [Int.toNat_natCast, toNat_succ, toNat_0] at q9); try k_sweep)) | ((k_here; with_reducible refine my_at 63 ?_); k_dflt ((refine' Cl.useP (encoding_of_cl _ _) ?k1 ?k2 ?k3 ?k4 ?k5 ?kK ?kd ?ku ?kp ?_; (case k1 => k_asm); (case k2 => k_asm); (case k3 => k_asm); (case k4 => k_asm); (case k5 => k_asm); (case kK => first | exact rfl | assumption); (case kd => (try dsimp only); omega); (case ku => (try dsimp only); omega)); (case kp => (first | k_asm | exact Nat.le_trans (sliceZ_len _ (by omega) (by omega)) (by k_asm))); k_whole); (intro v9 h9 tk9 F9 N9 r9; try k_sweep))
  k_with "exec While BoolOp cons nil" => refine Stop.out ?_
  trivial
def toldE (x : Str) (i : Nat) : Option Str :=
  let l := x.cps.toList
  if i < x.length ∧ (l.getD i 0 = 34 ∨ l.getD i 0 = 39) then
    let e := skipF (fun n => n != l.getD i 0) l (i + 1)
    if x.length ≤ e then none else encE ⟨(cutL l (i + 1) e).toArray⟩
  else
    let e := skipF (fun n => n != 59 && !spN n) l i
    encE ⟨(cutL l i e).toArray⟩
theorem one_eq (n k : Nat) : ((⟨#[n]⟩ : Str) == ⟨#[k]⟩) = (n == k) := by
  rw [Bool.eq_iff_iff, beq_iff_eq, beq_iff_eq]
  exact ⟨fun h => by injection h with h; injection h with h; injection h, fun h => by rw [h]⟩
theorem str_quote : (PySem.Str.ofString "\"") = ⟨#[34]⟩ := by decide +kernel
theorem str_apos : (PySem.Str.ofString "'") = ⟨#[39]⟩ := by decide +kernel
theorem str_semi : (PySem.Str.ofString ";") = ⟨#[59]⟩ := by decide +kernel
theorem quote_any (n : Nat) : ([PySem.Str.ofString "\"", PySem.Str.ofString "'"].any fun y => y == (⟨#[n]⟩ : Str)) = decide (n = 34 ∨ n = 39) := by
  simp only [List.any_cons, List.any_nil, str_quote, str_apos, one_eq, Bool.or_false]
  rw [Bool.eq_iff_iff]; simp; omega
theorem getD_of {l : List Nat} {i n : Nat} (h : l[i]? = some n) : l.getD i 0 = n := by
  simp [List.getD, h]
theorem item_get {x : Str} {i : Nat} (h : i < x.length) : ∃ n, x.cps.toList[i]? = some n ∧ Txt.item x (i : Int) = ⟨#[n]⟩ ∧ x.cps.toList.getD i 0 = n := by
  obtain ⟨n, h1, h2⟩ := item_at h
  exact ⟨n, h1, h2, getD_of h1⟩
theorem bne_one (n k : Nat) : ((⟨#[n]⟩ : Str) != ⟨#[k]⟩) = (n != k) := by
  simp only [bne, one_eq]
theorem told_a {x : Str} {i q e : Nat} (hi : i < x.length) (hq : x.cps.toList.getD i 0 = q) (ha : q = 34 ∨ q = 39) (he : e = skipF (fun n => n != q) x.cps.toList (i + 1)) (hl : x.length ≤ e) : toldE x i = none := by
  subst hq; subst he
  simp only [toldE, hi, ha, and_self, if_true, hl]
theorem told_b {x : Str} {i q e : Nat} (hi : i < x.length) (hq : x.cps.toList.getD i 0 = q) (ha : q = 34 ∨ q = 39) (he : e = skipF (fun n => n != q) x.cps.toList (i + 1)) (hl : ¬ x.length ≤ e) : toldE x i = encE (Txt.slice x (some ((i : Int) + 1)) (some (e : Int))) := by
  subst hq
  have h1 : ((i : Int) + 1) = ((i + 1 : Nat) : Int) := by omega
  rw [h1, txt_slice]
  subst he
  simp only [toldE, hi, ha, and_self, if_true, hl, if_false]
theorem told_c {x : Str} {i e : Nat} (hn : ¬ (i < x.length ∧ (x.cps.toList.getD i 0 = 34 ∨ x.cps.toList.getD i 0 = 39))) (he : e = skipF (fun n => n != 59 && !spN n) x.cps.toList i) : toldE x i = encE (Txt.slice x (some (i : Int)) (some (e : Int))) := by
  rw [txt_slice]
  subst he
  simp only [toldE, hn, if_false]
theorem told_charset_cl (x : Str) (t : Tok) (i : Nat) (ti : Tok) : Cl w mean mg mb 5 103 [.str x t, .int (i : Int) ti] (fun _ => x.length ≤ 1000000 ∧ i ≤ x.length) (fun _ v _ => optR (toldE x i) v) := by
  refine cl_of (binds := [(PySem.Str.ofString "text", _), (PySem.Str.ofString "at", _)]) (by k_is) (by k_is) (fun s => BindsTo.of_eq rfl) (locs rfl) (by decide) rfl rfl rfl ?_
  intro dp un gd outer A₀ base g L h₁ s B' F' X' N' T' hdp hun hD hpre hs
  subst hs
  (try dsimp only [kstB, List.reverse, List.reverseAux] at F')
  (try dsimp only)
  k_fold
  obtain ⟨hx, hi⟩ := hpre
  k_steps
  · rename (List.any _ _ = _) => ha
    rename ((_ : Int) < _) => hlt
    obtain ⟨q, hq, hit, hqd⟩ := item_get (x := x) (i := i) (by omega)
    rw [hit, quote_any, decide_eq_true_eq] at ha
    rename Fr _ _ _ _ => F1
    rename News _ _ _ _ => N1
    unfold Stop
    refine my_while2 (σ := Nat × Tok) (fun _ => []) (mp1 (PySem.Str.ofString "end") (fun c => .int (c.1 : Int) c.2) _) (fun c => skipF (fun n => n != q) x.cps.toList c.1 = skipF (fun n => n != q) x.cps.toList (i + 1) ∧ i + 1 ≤ c.1 ∧ c.1 ≤ x.length) (fun c => c.1 = skipF (fun n => n != q) x.cps.toList (i + 1) ∧ i + 1 ≤ c.1 ∧ c.1 ≤ x.length) (fun c => x.length - c.1) (i + 1, _) F1 N1 (fun p hp => nomatch hp) (fun z => rfl) ⟨rfl, by omega, by omega⟩ ?_ ?_ (by with_unfolding_all passes_own)
    · intro c h tk hc F N
      (try dsimp only [mp1] at F)
      obtain ⟨hc1, hc2, hc3⟩ := hc
      k_fold
      k_steps
      · rename ((_ != _) = _) => hs
        rename ((_ : Int) < _) => hlt2
        obtain ⟨n, hn, hni⟩ := item_at (x := x) (i := c.1) (by omega)
        rw [hni, hit, bne_one] at hs
        ((try dsimp only); (rename Fr _ _ _ _ => Fe); (rename News _ _ _ _ => Ne); refine WEnd.intro ((c.1 + 1, _)) Fe Ne (by (try dsimp only); first | exact List.forall_mem_nil _ | with_unfolding_all ((try simp only [List.nil_append, List.cons_append]); k_allIn)) (by refine splitA (PySem.Str.ofString "end") (by first | rfl | exact int_val (by omega)) ?_; intro z hz0 hz1; (try simp only [if_neg hz0]); (try simp only [if_neg hz1]); (try rfl)) ?_)
        refine ⟨⟨?_, ?_, ?_⟩, ?_⟩
        · rw [← hc1, skipF_step hn hs]
        · dsimp only; omega
        · dsimp only; omega
        · dsimp only; omega
      · rename ((_ != _) = _) => hs
        rename ((_ : Int) < _) => hlt2
        obtain ⟨n, hn, hni⟩ := item_at (x := x) (i := c.1) (by omega)
        rw [hni, hit, bne_one] at hs
        ((try dsimp only); (rename Fr _ _ _ _ => Fe); (rename News _ _ _ _ => Ne); refine XPost.out (WEnd.intro (c) Fe Ne (by (try dsimp only); first | exact List.forall_mem_nil _ | with_unfolding_all ((try simp only [List.nil_append, List.cons_append]); k_allIn)) (by intro z hz0; (try simp only [if_true]); (try simp only [if_neg hz0]); (try rfl)) ?_))
        exact ⟨by rw [← hc1, skipF_here hn hs], hc2, hc3⟩
      · rename (¬ _) => hlt2
        ((try dsimp only); (rename Fr _ _ _ _ => Fe); (rename News _ _ _ _ => Ne); refine XPost.out (WEnd.intro (c) Fe Ne (by (try dsimp only); first | exact List.forall_mem_nil _ | with_unfolding_all ((try simp only [List.nil_append, List.cons_append]); k_allIn)) (by intro z hz0; (try simp only [if_true]); (try simp only [if_neg hz0]); (try rfl)) ?_))
        exact ⟨by rw [← hc1, skipF_stop (show x.length ≤ c.1 by omega)], hc2, hc3⟩
    · intro c h tk hc F N
      (try dsimp only [mp1] at F)
      obtain ⟨hc1, hc2, hc3⟩ := hc
      k_steps
      · rename ((_ : Int) ≤ _) => hge
        ((try dsimp only [MyPost, WPost, XPost]); (try k_unfold); (try dsimp only [MyPost, WPost, XPost]); (try k_unfold); (try dsimp only [MyPost, WPost, XPost]); (try k_unfold); (try dsimp only); refine Done.intro (by assumption) ?_)
        exact optR_none (told_a (by omega) hqd ha hc1 (by omega))
      · rename (¬ _) => hge
        rename optR _ _ => hr
        ((try dsimp only [MyPost, WPost, XPost]); (try k_unfold); (try dsimp only [MyPost, WPost, XPost]); (try k_unfold); (try dsimp only [MyPost, WPost, XPost]); (try k_unfold); (try dsimp only); refine Done.intro (by assumption) ?_)
        rw [told_b (by omega) hqd ha hc1 (by omega)]
        exact hr
  all_goals
    have hn : ¬ (i < x.length ∧ (x.cps.toList.getD i 0 = 34 ∨ x.cps.toList.getD i 0 = 39)) := by
      first
      | (rename (List.any _ _ = _) => ha
         rename ((_ : Int) < _) => hlt
         obtain ⟨q, hq, hit, hqd⟩ := item_get (x := x) (i := i) (by omega)
         rw [hit, quote_any, decide_eq_false_iff_not] at ha
         rw [hqd]
         exact fun h => ha h.2)
      | (rename (¬ _) => hlt
         exact fun h => hlt (by omega))
    rename Fr _ _ _ _ => F1
    rename News _ _ _ _ => N1
    unfold Stop
    refine my_while2 (σ := Nat × Tok) (fun _ => []) (mp1 (PySem.Str.ofString "end") (fun c => .int (c.1 : Int) c.2) _) (fun c => skipF (fun n => n != 59 && !spN n) x.cps.toList c.1 = skipF (fun n => n != 59 && !spN n) x.cps.toList i ∧ c.1 ≤ x.length) (fun c => c.1 = skipF (fun n => n != 59 && !spN n) x.cps.toList i ∧ c.1 ≤ x.length) (fun c => x.length - c.1) (i, _) F1 N1 (fun p hp => nomatch hp) (fun z => rfl) ⟨rfl, by omega⟩ ?_ ?_ (by with_unfolding_all passes_own)
    · intro c h tk hc F N
      (try dsimp only [mp1] at F)
      obtain ⟨hc1, hc2⟩ := hc
      k_fold
      k_steps
      · rename isSp _ = _ => hs
        rename ((_ != _) = _) => hs2
        rename ((_ : Int) < _) => hlt2
        obtain ⟨n, hn1, hni⟩ := item_at (x := x) (i := c.1) (by omega)
        rw [hni, isSp_one] at hs
        rw [hni, str_semi, bne_one] at hs2
        ((try dsimp only); (rename Fr _ _ _ _ => Fe); (rename News _ _ _ _ => Ne); refine XPost.out (WEnd.intro (c) Fe Ne (by (try dsimp only); first | exact List.forall_mem_nil _ | with_unfolding_all ((try simp only [List.nil_append, List.cons_append]); k_allIn)) (by intro z hz0; (try simp only [if_true]); (try simp only [if_neg hz0]); (try rfl)) ?_))
        exact ⟨by rw [← hc1, skipF_here hn1 (by simp only [hs, hs2]; rfl)], hc2⟩
      · rename isSp _ = _ => hs
        rename ((_ != _) = _) => hs2
        rename ((_ : Int) < _) => hlt2
        obtain ⟨n, hn1, hni⟩ := item_at (x := x) (i := c.1) (by omega)
        rw [hni, isSp_one] at hs
        rw [hni, str_semi, bne_one] at hs2
        ((try dsimp only); (rename Fr _ _ _ _ => Fe); (rename News _ _ _ _ => Ne); refine WEnd.intro ((c.1 + 1, _)) Fe Ne (by (try dsimp only); first | exact List.forall_mem_nil _ | with_unfolding_all ((try simp only [List.nil_append, List.cons_append]); k_allIn)) (by refine splitA (PySem.Str.ofString "end") (by first | rfl | exact int_val (by omega)) ?_; intro z hz0 hz1; (try simp only [if_neg hz0]); (try simp only [if_neg hz1]); (try rfl)) ?_)
        refine ⟨⟨?_, ?_⟩, ?_⟩
        · rw [← hc1, skipF_step hn1 (by simp only [hs, hs2]; rfl)]
        · dsimp only; omega
        · dsimp only; omega
      · rename ((_ != _) = _) => hs2
        rename ((_ : Int) < _) => hlt2
        obtain ⟨n, hn1, hni⟩ := item_at (x := x) (i := c.1) (by omega)
        rw [hni, str_semi, bne_one] at hs2
        ((try dsimp only); (rename Fr _ _ _ _ => Fe); (rename News _ _ _ _ => Ne); refine XPost.out (WEnd.intro (c) Fe Ne (by (try dsimp only); first | exact List.forall_mem_nil _ | with_unfolding_all ((try simp only [List.nil_append, List.cons_append]); k_allIn)) (by intro z hz0; (try simp only [if_true]); (try simp only [if_neg hz0]); (try rfl)) ?_))
        exact ⟨by rw [← hc1, skipF_here hn1 (by simp only [hs2]; rfl)], hc2⟩
      · rename (¬ _) => hlt2
        ((try dsimp only); (rename Fr _ _ _ _ => Fe); (rename News _ _ _ _ => Ne); refine XPost.out (WEnd.intro (c) Fe Ne (by (try dsimp only); first | exact List.forall_mem_nil _ | with_unfolding_all ((try simp only [List.nil_append, List.cons_append]); k_allIn)) (by intro z hz0; (try simp only [if_true]); (try simp only [if_neg hz0]); (try rfl)) ?_))
        exact ⟨by rw [← hc1, skipF_stop (show x.length ≤ c.1 by omega)], hc2⟩
    · intro c h tk hc F N
      (try dsimp only [mp1] at F)
      obtain ⟨hc1, hc2⟩ := hc
      k_steps
      rename optR _ _ => hr
      ((try dsimp only [MyPost, WPost, XPost]); (try k_unfold); (try dsimp only [MyPost, WPost, XPost]); (try k_unfold); (try dsimp only [MyPost, WPost, XPost]); (try k_unfold); (try dsimp only); refine Done.intro (by assumption) ?_)
      rw [told_c hn hc1]
      exact hr
theorem told_charset_clZ (x : Str) (t : Tok) (z : Int) (ti : Tok) : Cl w mean mg mb 5 103 [.str x t, .int z ti] (fun _ => 0 ≤ z ∧ x.length ≤ 1000000 ∧ z.toNat ≤ x.length) (fun _ v _ => optR (toldE x z.toNat) v) :=
  Cl.ofNat (vs := fun z => [.str x t, .int z ti]) (pre := fun i _ => x.length ≤ 1000000 ∧ i ≤ x.length) (R := fun i _ v _ => optR (toldE x i) v) (fun i => told_charset_cl x t i ti) z
theorem linesF7_2 : True := by
  k_with "call ref" => ((k_here; with_reducible refine my_at 103 ?_); k_dflt ((refine' Cl.useP (told_charset_clZ _ _ _ _) ?k1 ?k2 ?k3 ?k4 ?k5 ?kK ?kd ?ku ?kp ?_; (case k1 => k_asm); (case k2 => k_asm); (case k3 => k_asm); (case k4 => k_asm); (case k5 => k_asm); (case kK => first | exact rfl | assumption); (case kd => (try dsimp only); omega); (case ku => (try dsimp only); omega)); (case kp => refine And.intro ?_ (And.intro ?_ ?_) <;> first | omega | k_asm | exact Int.natCast_nonneg _ | (rw [Int.toNat_natCast]; k_asm)); k_whole); intro v9 h9 tk9 F9 N9 r9; (try simp only [Int.toNat_natCast] at r9); (try k_sweep))
  k_with "exec While Compare cons nil" => refine Stop.out ?_
  trivial
abbrev sCharset : Str := PySem.Str.ofString "charset"
abbrev sEq : Str := PySem.Str.ofString "="
/-- the reader's run over the lowered text, step by step -/
inductive ContR (x : Str) : Nat → Option Str → Prop
  | stop {a : Nat} (h1 : ¬ (a : Int) + 7 ≤ (x.length : Int)) : ContR x a none
  | next {a : Nat} {r : Option Str} (h1 : (a : Int) + 7 ≤ (x.length : Int)) (h2 : (Txt.slice x (some (a : Int)) (some ((a : Int) + 7)) != sCharset) = true) (h : ContR x (a + 1) r) : ContR x a r
  | skip {a b : Nat} {r : Option Str} (h1 : (a : Int) + 7 ≤ (x.length : Int)) (h2 : (Txt.slice x (some (a : Int)) (some ((a : Int) + 7)) != sCharset) = false) (h3 : skipF spN x.cps.toList (a + 7) = b)
      (h4 : (Txt.slice x (some (b : Int)) (some ((b : Int) + 1)) == sEq) = false) (h : ContR x b r) : ContR x a r
  | told {a b c : Nat} (h1 : (a : Int) + 7 ≤ (x.length : Int)) (h2 : (Txt.slice x (some (a : Int)) (some ((a : Int) + 7)) != sCharset) = false) (h3 : skipF spN x.cps.toList (a + 7) = b)
      (h4 : (Txt.slice x (some (b : Int)) (some ((b : Int) + 1)) == sEq) = true) (h5 : skipF spN x.cps.toList (b + 1) = c) : ContR x a (toldE x c)
theorem slice_one {x : Str} {b : Nat} (h : (Txt.slice x (some (b : Int)) (some ((b : Int) + 1)) == sEq) = true) : b + 1 ≤ x.length := by
  have h1 : ((b : Int) + 1) = ((b + 1 : Nat) : Int) := by omega
  rw [h1, txt_slice, beq_iff_eq] at h
  have h2 : sEq = ⟨#[61]⟩ := by decide +kernel
  rw [h2] at h
  have h3 : (cutL x.cps.toList b (b + 1)).length = 1 := by
    have := congrArg (fun y : Str => y.cps.size) h
    simpa using this
  simp only [cutL, List.length_take, List.length_drop, Array.length_toList] at h3
  show b + 1 ≤ x.cps.size
  omega
theorem content_charset_cl (x : Str) (t : Tok) : Cl w mean mg mb 6 110 [.str x t] (fun _ => x.length ≤ 1000000) (fun _ v _ => ∃ r, ContR (lowT x) 0 r ∧ optR r v) := by
  refine cl_of (binds := [(PySem.Str.ofString "text", _)]) (by k_is) (by k_is) (fun s => BindsTo.of_eq rfl) (locs rfl) (by decide) rfl rfl rfl ?_
  intro dp un gd outer A₀ base g L h₁ s B' F' X' N' T' hdp hun hD hpre hs
  subst hs
  (try dsimp only [kstB, List.reverse, List.reverseAux] at F')
  (try dsimp only)
  k_fold
  have hx : x.length ≤ 1000000 := hpre
  k_steps
  rename Fr _ _ _ _ => F1
  rename News _ _ _ _ => N1
  unfold Stop
  have hlow : (lowT x).length ≤ 1000000 := by show (x.cps.map lowN).size ≤ _; rw [Array.size_map]; exact hx
  generalize hy : lowT x = y at hlow F1 ⊢
  refine my_while (σ := Nat × Tok) (fun _ => []) (mp1 (PySem.Str.ofString "at") (fun c => .int (c.1 : Int) c.2) _) (fun c => ∀ r, ContR y c.1 r → ContR y 0 r) (fun c => y.length + 1 - c.1) (0, _) F1 N1 (fun p hp => nomatch hp) (fun z => rfl) (fun _ h => h) ?_ (by with_unfolding_all passes_own)
  intro c h tk hc F N
  (try dsimp only [mp1] at F)
  k_fold
  k_steps
  · rename ((_ != _) = _) => h2
    rename ((_ : Int) ≤ _) => h1
    (try dsimp only)
    (try k_unfold)
    ((try dsimp only); (rename Fr _ _ _ _ => Fe); (rename News _ _ _ _ => Ne); refine WEnd.intro ((c.1 + 1, _)) Fe Ne (by (try dsimp only); first | exact List.forall_mem_nil _ | with_unfolding_all ((try simp only [List.nil_append, List.cons_append]); k_allIn)) (by refine splitA (PySem.Str.ofString "at") (by first | rfl | exact int_val (by omega)) ?_; intro z hz0 hz1; (try simp only [if_neg hz0]); (try simp only [if_neg hz1]); (try rfl)) ?_)
    exact ⟨fun r hr => hc r (.next h1 h2 hr), by dsimp only; omega⟩
  · rename ((_ == _) = _) => h4
    have h6 := slice_one h4
    k_steps
    rename (skipF _ _ _ = _) => h5
    have h7 := skipF_le (p := spN) (l := y.cps.toList) h6
    rw [h5] at h7
    subst h5
    rename (skipF _ _ _ = _) => h3
    rw [toNat_7] at h3
    rename ((_ != _) = _) => h2
    rename ((_ : Int) + 7 ≤ _) => h1
    k_steps
    rename optR _ _ => hr
    ((try dsimp only [MyPost, WPost, XPost]); (try k_unfold); (try dsimp only [MyPost, WPost, XPost]); (try k_unfold); (try dsimp only [MyPost, WPost, XPost]); (try k_unfold); (try dsimp only); refine Done.intro (by assumption) ?_)
    rw [hy]
    exact ⟨_, hc _ (.told h1 h2 h3 h4 rfl), hr⟩
  · rename ((_ == _) = _) => h4
    rename ((_ != _) = _) => h2
    rename ((_ : Int) + 7 ≤ _) => h1
    rename (skipF _ _ _ = _) => h3
    rw [toNat_7] at h3
    ((try dsimp only); (rename Fr _ _ _ _ => Fe); (rename News _ _ _ _ => Ne); refine WEnd.intro ((_, _)) Fe Ne (by (try dsimp only); first | exact List.forall_mem_nil _ | with_unfolding_all ((try simp only [List.nil_append, List.cons_append]); k_allIn)) (by refine splitA (PySem.Str.ofString "at") (by first | rfl | exact int_val (by omega)) ?_; intro z hz0 hz1; (try simp only [if_neg hz0]); (try simp only [if_neg hz1]); (try rfl)) ?_)
    refine ⟨fun r hr => hc r (.skip h1 h2 h3 h4 hr), ?_⟩
    have := skipF_ge (p := spN) (l := y.cps.toList) (i := c.1 + 7)
    rw [h3] at this
    dsimp only; omega
  · rename (¬ _) => h1
    ((try dsimp only [MyPost, WPost, XPost]); (try k_unfold); (try dsimp only [MyPost, WPost, XPost]); (try k_unfold); (try dsimp only [MyPost, WPost, XPost]); (try k_unfold); (try dsimp only); refine Done.intro (by assumption) ?_)
    rw [hy]
    exact ⟨_, hc _ (.stop h1), rfl⟩
end Mine
end
section
open PySem PySem.W PyProof.Rows PySem.Calls PyProof.Rows.LCg
set_option maxRecDepth 100000
set_option maxHeartbeats 8000000
namespace Mine
theorem sectF8 : True := by
  w_top off
  k_with_none
  trivial
variable {w : World} {mean : ExcName → Option Value} {mg mb : Str → Option Value}
theorem linesF8_1 : True := by
  k_with "eval ListComp" => refine Stop.out ?_
  trivial
theorem law_digit_cl (l : Addr) (vs : List Value) (ns : List Int) (z : Int) (ti : Tok) : Cl w mean mg mb 1 117 [.ref l, .int z ti] (fun h => h.IsList l vs.toArray ∧ IntsAre vs ns ∧ ns.length ≤ 1000 ∧ 0 ≤ z) (fun _ v _ => ∃ t, v = .int (ns.getD z.toNat 0) t) := by
  refine cl_of (binds := [(PySem.Str.ofString "script", _), (PySem.Str.ofString "at", _)]) (by k_is) (by k_is) (fun s => BindsTo.of_eq rfl) (locs rfl) (by decide) rfl rfl rfl ?_
  intro dp un gd outer A₀ base g L h₁ s B' F' X' N' T' hdp hun hD hpre hs
  subst hs
  (try dsimp only [kstB, List.reverse, List.reverseAux] at F')
  (try dsimp only)
  k_fold
  obtain ⟨hl, hi, hn, hz⟩ := hpre
  k_steps
  · ((try dsimp only [MyPost, WPost, XPost]); (try k_unfold); (try dsimp only [MyPost, WPost, XPost]); (try k_unfold); (try dsimp only [MyPost, WPost, XPost]); (try k_unfold); (try dsimp only); refine Done.intro (by assumption) ?_)
    exact ⟨_, rfl⟩
  · rename (¬ _) => h
    ((try dsimp only [MyPost, WPost, XPost]); (try k_unfold); (try dsimp only [MyPost, WPost, XPost]); (try k_unfold); (try dsimp only [MyPost, WPost, XPost]); (try k_unfold); (try dsimp only); refine Done.intro (by assumption) ?_)
    have : ns.getD z.toNat 0 = 0 := by rw [List.getD, List.getElem?_eq_none (by omega)]; rfl
    rw [this]
    exact ⟨_, rfl⟩
theorem lt1A (c : Nat) : ((⟨#[c]⟩ : Str).cps.toList < (PySem.Str.ofString "A").cps.toList) = (c < 65) := by
  have eA : (PySem.Str.ofString "A").cps.toList = [65] := by decide +kernel
  rw [eA]; exact lt1 c 65
theorem lt1Z (c : Nat) : ((PySem.Str.ofString "Z").cps.toList < (⟨#[c]⟩ : Str).cps.toList) = (90 < c) := by
  have eZ : (PySem.Str.ofString "Z").cps.toList = [90] := by decide +kernel
  rw [eZ]; exact lt1 90 c
theorem low_out {c : Nat} (h : c < 65 ∨ 90 < c) : lowN c = c := by
  have : upN c = false := by unfold upN; rw [Bool.eq_false_iff]; simp; omega
  unfold lowN; rw [this]; rfl
theorem low_in {c : Nat} (h1 : 65 ≤ c) (h2 : c ≤ 90) : lowN c = c + 32 := by
  have : upN c = true := by unfold upN; simp; omega
  unfold lowN; rw [this]; rfl
theorem law_lowered_cl (x : Str) (t : Tok) : Cl w mean mg mb 1 136 [.str x t] (fun _ => x.length ≤ 1000000) (fun _ v _ => ∃ t', v = .str (lowT x) t') := by
  refine cl_of (binds := [(PySem.Str.ofString "text", _)]) (by k_is) (by k_is) (fun s => BindsTo.of_eq rfl) (locs rfl) (by decide) rfl rfl rfl ?_
  intro dp un gd outer A₀ base g L h₁ s B' F' X' N' T' hdp hun hD hpre hs
  subst hs
  (try dsimp only [kstB, List.reverse, List.reverseAux] at F')
  (try dsimp only)
  k_fold
  have hx : x.length ≤ 1000000 := hpre
  k_steps
  rename Fr _ _ _ _ => F1
  rename News _ _ _ _ => N1
  unfold Stop
  refine my_ListComp (cl := []) F1 rfl (by decide) rfl (by decide) rfl ?_
  walk1
  refine my_comp_str rfl F1 N1 (by show x.length ≤ _; exact Nat.le_trans hx (by decide)) fun g' => my_rest (fun i ys => StrsAre ys ((x.cps.toList.take i).map fun c => ⟨#[lowN c]⟩)) trivial ?_ ?_ _ 0 [] (Nat.zero_add _) .nil
  · rintro i ys v I oI C oC D m₂ h tk E' hi ⟨c, u, hc, rfl⟩ hv hNs hx F N off hne
    k_fold
    have hc' : x.cps.toList[i]? = some c := by simpa using hc
    k_steps
    · rename (_ < _) => ha
      rw [lt1A] at ha
      ((try dsimp only); (rename Fr _ _ _ _ => Fe); (rename News _ _ _ _ => Ne); refine CEnd.intro Fe Ne (by with_unfolding_all k_allIn) ?_)
      rw [List.take_add_one, hc', List.map_append]
      refine hv.append' ?_
      show StrsAre _ [(⟨#[lowN c]⟩ : Str)]
      rw [low_out (.inl ha)]
      exact .cons _ _ .nil
    · rename (_ < _) => ha
      rw [lt1Z] at ha
      ((try dsimp only); (rename Fr _ _ _ _ => Fe); (rename News _ _ _ _ => Ne); refine CEnd.intro Fe Ne (by with_unfolding_all k_allIn) ?_)
      rw [List.take_add_one, hc', List.map_append]
      refine hv.append' ?_
      show StrsAre _ [(⟨#[lowN c]⟩ : Str)]
      rw [low_out (.inr ha)]
      exact .cons _ _ .nil
    · rename (¬ _) => hb
      rw [lt1Z] at hb
      have hb2 : ¬ 90 < c := hb
      clear hb
      rename (¬ (_ : List Nat) < _) => ha
      rw [lt1A] at ha
      refine chr_of_range (by omega) (by omega) ?_
      k_steps
      ((try dsimp only); (rename Fr _ _ _ _ => Fe); (rename News _ _ _ _ => Ne); refine CEnd.intro Fe Ne (by with_unfolding_all k_allIn) ?_)
      rw [List.take_add_one, hc', List.map_append]
      refine hv.append' ?_
      show StrsAre _ [(⟨#[lowN c]⟩ : Str)]
      rw [low_in (by omega) (by omega)]
      have e : ((c : Int) + 32).toNat = c + 32 := by omega
      rw [e]
      exact .cons _ _ .nil
  · intro ys hv D h tk F N off
    k_steps
    have hv' : StrsAre ys.toArray.toList ((x.cps.toList.take x.cps.size).map fun c => ⟨#[lowN c]⟩) := hv
    rw [List.take_of_length_le (by simp)] at hv'
    refine join_list (News.isList (by assumption) (.head _)) hv' (ones_ok _ _ hx) ?_
    intro t' k
    k_steps
    ((try dsimp only [MyPost, WPost, XPost]); (try k_unfold); (try dsimp only [MyPost, WPost, XPost]); (try k_unfold); (try dsimp only [MyPost, WPost, XPost]); (try k_unfold); (try dsimp only); refine Done.intro (by assumption) ?_)
    refine strv ?_
    rw [join_map]
    simp only [lowT, ← Array.toList_map, Array.toArray_toList]
theorem lowT_le {x : Str} (h : x.length ≤ 1000000) : (lowT x).length ≤ 1000000 := by
  show (x.cps.map lowN).size ≤ _
  rw [Array.size_map]; exact h
theorem lowT_len (x : Str) : (lowT x).length = x.length := by
  show (x.cps.map lowN).size = _
  rw [Array.size_map]; rfl
theorem linesF8_2 : True := by
  k_with "call ref" => ((k_here; with_reducible refine my_at 136 ?_); k_dflt ((refine' Cl.useS (law_lowered_cl _ _) ?k1 ?k2 ?k3 ?k4 ?k5 ?kK ?kd ?ku ?kp ?_; (case k1 => k_asm); (case k2 => k_asm); (case k3 => k_asm); (case k4 => k_asm); (case k5 => k_asm); (case kK => first | exact rfl | assumption); (case kd => (try dsimp only); omega); (case ku => (try dsimp only); omega)); (case kp => first | exact trivial | k_asm); k_whole); (intro h9 tk9 F9 N9 t9; try k_sweep); (have hl9 := lowT_le (by assumption)))
  k_with "compareOp In str ref" => (k_here; (with_reducible show wpAny _ _ (compareOp CmpOp.In (Value.str _ _) (Value.ref _)) _ _ _); k_dflt (refine in_strTab (TabAt.keep (by k_asm) (Fr.keep (by k_asm))) ?_))
  trivial
abbrev wsS : Str := PySem.Str.ofString "\t\n\x0c\r "
def nameT (tb : List (Str × Str)) (x : Str) : Option Str := lookT tb (Txt.stripChars (lowT x) wsS)
theorem law_name_cl (d : Addr) (o : Obj) (tb : List (Str × Str)) (x : Str) (t : Tok) : Cl w mean mg mb 2 143 [.ref d, .str x t] (fun h => x.length ≤ 1000000 ∧ h.get? d = some o ∧ TabObj w o tb ∧ (d == sysModules) = false) (fun _ v _ => optR (nameT tb x) v) := by
  refine cl_of (binds := [(PySem.Str.ofString "known", _), (PySem.Str.ofString "text", _)]) (by k_is) (by k_is) (fun s => BindsTo.of_eq rfl) (locs rfl) (by decide) rfl rfl rfl ?_
  intro dp un gd outer A₀ base g L h₁ s B' F' X' N' T' hdp hun hD hpre hs
  subst hs
  (try dsimp only [kstB, List.reverse, List.reverseAux] at F')
  (try dsimp only)
  k_fold
  obtain ⟨hx, ho, hT, hm⟩ := hpre
  have T := hT.tab ho hm
  k_steps
  · rename (Option.isSome _ = _) => h1
    obtain ⟨n, hn⟩ : ∃ n, lookT tb (Txt.stripChars (lowT x) wsS) = some n := by
      rw [tbD_look] at h1
      cases hq : lookT tb (Txt.stripChars (lowT x) wsS) with
      | none => rw [hq] at h1; cases h1
      | some n => exact ⟨n, rfl⟩
    rename (Spec.lookup _ _ = some _) => hl
    rename PyProof.V.Flat _ _ => hv
    rw [tbD_look, hn] at hl
    cases hl
    obtain ⟨t', ht⟩ := PyProof.V.Flat.str_inv hv
    subst ht
    ((try dsimp only [MyPost, WPost, XPost]); (try k_unfold); (try dsimp only [MyPost, WPost, XPost]); (try k_unfold); (try dsimp only [MyPost, WPost, XPost]); (try k_unfold); (try dsimp only); refine Done.intro (by assumption) ?_)
    exact optR_some hn
  · rename (Option.isSome _ = _) => h1
    ((try dsimp only [MyPost, WPost, XPost]); (try k_unfold); (try dsimp only [MyPost, WPost, XPost]); (try k_unfold); (try dsimp only [MyPost, WPost, XPost]); (try k_unfold); (try dsimp only); refine Done.intro (by assumption) ?_)
    refine optR_none ?_
    rw [tbD_look] at h1
    cases hq : lookT tb (Txt.stripChars (lowT x) wsS) with
    | none => exact hq
    | some n => rw [hq] at h1; cases h1
end Mine
end
section
open PySem PySem.W PyProof.Rows PySem.Calls PyProof.Rows.LCg
set_option maxRecDepth 100000
set_option maxHeartbeats 8000000
namespace Mine
theorem sectF9 : True := by
  w_top off
  k_with_none
  trivial
variable {w : World} {mean : ExcName → Option Value} {mg mb : Str → Option Value}
theorem linesF9_1 : True := by
  k_with "eval ListComp" => refine Stop.out ?_
  k_with "CompSrc" => refine Stop.out ?_
  trivial
def mixE (x : Str) (z : Int) (k : Nat) : Str := if ((k : Int) + z).fmod 2 = 0 then Txt.upper (Txt.item x (k : Int)) else Txt.item x (k : Int)
def mixL (x : Str) (z : Int) (n : Nat) : List Str := (List.range n).map (mixE x z)
def mixS (x : Str) (z : Int) : Str := Txt.join (PySem.Str.ofString "") (mixL x z x.length)
theorem mixL_succ (x : Str) (z : Int) (n : Nat) : mixL x z (n + 1) = mixL x z n ++ [mixE x z n] := by
  unfold mixL; rw [List.range_succ, List.map_append]; rfl
theorem item_le (x : Str) (i : Int) : (Txt.item x i).length ≤ 1 := by
  unfold Txt.item
  cases Txt.charAt x i <;> simp [Str.length]
theorem mixE_le (x : Str) (z : Int) (k : Nat) : (mixE x z k).length ≤ 3 := by
  unfold mixE
  have h1 := item_le x (k : Int)
  have h2 := fact_upper (Txt.item x (k : Int))
  split <;> omega
theorem mixL_sum (x : Str) (z : Int) : ∀ n, ((mixL x z n).map (·.length)).sum ≤ 3 * n
  | 0 => by simp [mixL]
  | n + 1 => by
    rw [mixL_succ, List.map_append, List.sum_append]
    have h1 := mixE_le x z n
    have h2 := mixL_sum x z n
    simp only [List.map_cons, List.map_nil, List.sum_cons, List.sum_nil]
    omega
theorem join_nil_len (ys : List Str) : (Txt.join (PySem.Str.ofString "") ys).length = (ys.map (·.length)).sum := by
  unfold Txt.join
  rw [StrLaws.glued_eq_join]
  have he : (PySem.Str.ofString "") = ⟨#[]⟩ := by decide +kernel
  rw [he]
  induction ys with
  | nil => rfl
  | cons a r ih =>
    cases r with
    | nil => simp [Str.join]
    | cons b r =>
      show (a ++ (⟨#[]⟩ : Str) ++ Str.join ⟨#[]⟩ (b :: r)).length = _
      have h1 : (a ++ (⟨#[]⟩ : Str) ++ Str.join ⟨#[]⟩ (b :: r)).length = a.length + (Str.join ⟨#[]⟩ (b :: r)).length := by
        show (a ++ (⟨#[]⟩ : Str) ++ Str.join ⟨#[]⟩ (b :: r)).cps.size = a.cps.size + (Str.join ⟨#[]⟩ (b :: r)).cps.size
        simp [PySem.Str.cps_append]
      rw [h1, ih]
      simp
theorem mixS_le (x : Str) (z : Int) : (mixS x z).length ≤ 3 * x.length := by
  unfold mixS
  rw [join_nil_len]
  exact mixL_sum x z _
theorem law_mixed_cl (x : Str) (t : Tok) (z : Int) (tz : Tok) : Cl w mean mg mb 2 148 [.str x t, .int z tz] (fun h => x.length ≤ 1000) (fun _ v _ => ∃ t', v = .str (mixS x z) t') := by
  refine cl_ofC (binds := [(PySem.Str.ofString "text", _), (PySem.Str.ofString "way", _)]) (by k_is) (by k_is) (fun s => BindsTo.of_eq rfl) rfl (by decide +kernel) rfl rfl rfl ?_
  intro dp un gd outer A₀ base g L h₁ cells s B' F' X' N' Y' T' hdp hun hD hpre hs
  subst hs
  k_cells Y'
  (try simp only [List.cons_append, List.nil_append] at N')
  (try k_unmd)
  (try dsimp only)
  (try k_unmd)
  k_fold
  have hx : x.length ≤ 1000 := hpre
  k_steps
  rename Fr _ _ _ _ => F1
  rename News _ _ _ _ => N1
  unfold Stop
  refine LCg.ListComp_U (F₀ := F1) (by with_unfolding_all rfl) (by decide) (by rfl) (by decide) (by rfl) ?_
  k_steps
  unfold Stop
  rename Fr _ _ _ _ => F2
  rename News _ _ _ _ => N2
  rename IsRange _ _ _ _ _ _ _ _ => hr
  refine CompSrc.range rfl F2 N2 hr (small_one (by omega) (by omega) (by omega) (by omega)) (rangeSize_nat _ _) (by rw [PySem.sizeLine_eq]; omega) ?_
  intro g'
  refine my_rest (fun i ys => StrsAre ys (mixL x z i)) trivial ?_ ?_ _ 0 [] (Nat.zero_add _) .nil
  · rintro i ys v I oI C oC D m₂ h tk E' hi ⟨tv, rfl⟩ hv hNs hx F N off hne
    k_fold
    k_steps
    · rename (Int.fmod _ _ = _) => hm
      ((try dsimp only); (rename Fr _ _ _ _ => Fe); (rename News _ _ _ _ => Ne); refine CEnd.intro Fe Ne (by with_unfolding_all k_allIn) ?_)
      rw [mixL_succ]
      refine hv.append' ?_
      rw [Int.zero_add] at hm
      have e : mixE x z i = Txt.upper (Txt.item x (0 + (i : Int))) := by unfold mixE; rw [if_pos hm, Int.zero_add]
      rw [e]
      exact .cons _ _ .nil
    · rename (¬ _) => hm
      ((try dsimp only); (rename Fr _ _ _ _ => Fe); (rename News _ _ _ _ => Ne); refine CEnd.intro Fe Ne (by with_unfolding_all k_allIn) ?_)
      rw [mixL_succ]
      refine hv.append' ?_
      rw [Int.zero_add] at hm
      have e : mixE x z i = Txt.item x (0 + (i : Int)) := by unfold mixE; rw [if_neg hm, Int.zero_add]
      rw [e]
      exact .cons _ _ .nil
  · intro ys hv D h tk F N off
    k_steps
    have hn : ((x.length : Int) - 0).toNat = x.length := by omega
    rw [hn] at hv
    refine join_list (items := ys.toArray) (News.isList (by assumption) (.head _)) hv ?_ ?_
    · have h1 := mixL_sum x z x.length
      have e0 : (PySem.Str.ofString "").length = 0 := by decide +kernel
      rw [e0]; omega
    · intro t' k
      k_steps
      ((try dsimp only [MyPost, WPost, XPost]); (try k_unfold); (try dsimp only [MyPost, WPost, XPost]); (try k_unfold); (try dsimp only [MyPost, WPost, XPost]); (try k_unfold); (try dsimp only); refine Done.intro (by assumption) ?_)
      exact ⟨_, rfl⟩
end Mine
end
section
open PySem PySem.W PyProof.Rows PySem.Calls PyProof.Rows.LCg
set_option maxRecDepth 100000
set_option maxHeartbeats 8000000
namespace Mine
theorem sectF10 : True := by
  w_top off
  k_with_none
  trivial
theorem my_gen {M : Model} {A : Around} {tr : Sem Flow} {Q : Flow → Shared → Prop} {E : Value → Shared → Prop} {n m : Nat} {h0 : Heap} {g0 : _} {d0 : _} {o0 : _} (h : ∀ k, wpAny M A tr Q E (Shared.mk h0 g0 d0 (k + 1) o0)) : wpAny M A tr Q E (Shared.mk h0 g0 d0 (n + m + 1) o0) := h _
theorem my_gen2 {M : Model} {A : Around} {tr : Sem Flow} {Q : Flow → Shared → Prop} {E : Value → Shared → Prop} {s : Shared} {h0 : Heap} {g0 : _} {d0 : _} {o0 : _} (h : ∀ k, wpAny M A tr Q E (Shared.mk h0 g0 d0 (k + 1) o0)) : wpAny M A tr Q E (Shared.mk h0 g0 d0 (s.toks + 1) o0) := h _
theorem linesF10_1 : True := by
  k_with "execs cons" => (k_here; (with_reducible show wpAny _ _ (execs (Stmt.Return _ _ :: _) _) _ _ (Shared.mk _ _ _ (_ + 1) _)); (with_reducible refine wpAny_execs_cons ?_); try dsimp only)
  k_with "execs cons" => (k_here; (with_reducible first | refine my_gen ?_ | refine my_gen2 ?_); intro tk)
  trivial
variable {w : World} {mean : ExcName → Option Value} {mg mb : Str → Option Value}
theorem law_mixed_cl2 (x : Str) (t : Tok) (z : Int) (tz : Tok) : Cl w mean mg mb 2 148 [.str x t, .int z tz] (fun h => x.length ≤ 1000) (fun _ v _ => ∃ y t', v = .str y t' ∧ y.length ≤ 3 * x.length) :=
  (law_mixed_cl x t z tz).post fun _ _ _ ⟨t', e⟩ => ⟨_, t', e, mixS_le x z⟩
theorem linesF10_2 : True := by
  k_with "call ref" => ((k_here; with_reducible refine my_at 148 ?_); k_dflt ((refine' Cl.useY (law_mixed_cl2 _ _ _ _) ?k1 ?k2 ?k3 ?k4 ?k5 ?kK ?kd ?ku ?kp ?_; (case k1 => k_asm); (case k2 => k_asm); (case k3 => k_asm); (case k4 => k_asm); (case k5 => k_asm); (case kK => first | exact rfl | assumption); (case kd => (try dsimp only); omega); (case ku => (try dsimp only); omega)); (case kp => first | exact trivial | k_asm); k_whole); (intro h9 tk9 F9 N9 y9 t9 hl9; try k_sweep))
  trivial
theorem len_app (a b : Str) : (a ++ b).length = a.length + b.length := by
  show (a ++ b).cps.size = a.cps.size + b.cps.size
  simp [PySem.Str.cps_append]
theorem lit1 : (PySem.Str.ofString "\t ").length = 2 ∧ (PySem.Str.ofString "\n\r\x0c ").length = 4 ∧ (PySem.Str.ofString "\x0b").length = 1 ∧ (PySem.Str.ofString "\xa0").length = 1 ∧ (PySem.Str.ofString "-").length = 1 ∧ (PySem.Str.ofString "_").length = 1
  ∧ (PySem.Str.ofString "0").length = 1 ∧ (PySem.Str.ofString "İ").length = 1 ∧ (PySem.Str.ofString " ").length = 1 ∧ (PySem.Str.ofString "x").length = 1 ∧ (PySem.Str.ofString ":").length = 1 ∧ (PySem.Str.ofString "8").length = 1 := by decide +kernel
theorem len_replace {x z : Str} (y : Str) (hb : x.length + (x.length + 1) * z.length ≤ 16777216) : (Txt.replace x y z).length ≤ x.length + (x.length + 1) * z.length := by
  unfold Txt.replace
  split
  · exact Nat.le_add_right _ _
  · have h1 := StrLaws.occ_length_le x y 0 x.length (x.length + 1)
    have hy : (Builtin.Str.glued y (Builtin.Str.partsBetween x (Builtin.Str.occurrences x y 0 x.length (x.length + 1)) y.length)).length = x.length := by rw [StrLaws.glued_between_self]
    rw [size_glued, length_partsBetween, Nat.add_sub_cancel] at hy
    rw [size_glued, length_partsBetween, Nat.add_sub_cancel]
    have h2 : (Builtin.Str.occurrences x y 0 x.length (x.length + 1)).length * z.length ≤ (x.length + 1) * z.length := Nat.mul_le_mul_right _ h1
    omega
theorem len_replace1 {x z : Str} {n : Nat} (y : Str) (hz : z.length = 1) (hx : x.length ≤ n) (hn : n ≤ 1000000) : (Txt.replace x y z).length ≤ 2 * n + 1 := by
  have := len_replace (x := x) (z := z) y (by rw [hz]; omega)
  rw [hz] at this; omega
open Builtin Builtin.Str in
theorem my_replace {prog : Program} {A : Around} {E : Value → Shared → Prop} {s : Shared} {x y z : Str} {t u v : Tok} {Q : Value → Shared → Prop} (hu : u ≠ 0) (hv : v ≠ 0) (huv : u ≠ v) (hyz : (y == z) = false) (hb : x.length + (x.length + 1) * z.length ≤ 16777216)
    (hq : ∀ t' k, s.toks ≤ k → Q (.str (Txt.replace x y z) t') { s with toks := k }) : wpAny (model prog w) A (call (.builtin "str.replace") [.str x t, .str y u, .str z v]) Q E s := by
  have hl : tooLong (x.length + (occurrences x y 0 x.length (x.length + 1)).length * z.length) = false := by
    have h1 := StrLaws.occ_length_le x y 0 x.length (x.length + 1)
    have h2 : (occurrences x y 0 x.length (x.length + 1)).length * z.length ≤ (x.length + 1) * z.length := Nat.mul_le_mul_right _ h1
    unfold tooLong sizeLine
    exact decide_eq_false (by omega)
  refine call_gives F.slot_str_replace (typeIs_str _ _ _) F.entry_str_replace (F.args_str_replace_3 _ _ _)
    (gives_str_replace x y z t u v fun _ => ⟨by simp [hu, hv], by simp [huv], hyz, hl⟩) ?_
  unfold Txt.replace at hq
  cases hc : ((occurrences x y 0 x.length (x.length + 1)).isEmpty || (y.length == 0 && z.length == 0))
  · rw [hc] at hq
    simp only [Bool.false_eq_true, if_false] at hq ⊢
    exact ⟨fits_replaced y hb, hq _ _ (by first | exact Nat.le_refl _ | exact Nat.le_succ _ | (dsimp only; omega))⟩
  · rw [hc] at hq
    simp only [if_true] at hq ⊢
    exact hq t s.toks (Nat.le_refl _)
theorem my_replace1 {prog : Program} {A : Around} {E : Value → Shared → Prop} {s : Shared} {x y z : Str} {t u v : Tok} {Q : Value → Shared → Prop} (n : Nat) (hz : z.length = 1) (hx : x.length ≤ n) (hn : n ≤ 1000000) (hu : u ≠ 0) (hv : v ≠ 0) (huv : u ≠ v) (hyz : (y == z) = false)
    (hq : ∀ t' k y', s.toks ≤ k → y'.length ≤ 2 * n + 1 → Q (.str y' t') { s with toks := k }) : wpAny (model prog w) A (call (.builtin "str.replace") [.str x t, .str y u, .str z v]) Q E s :=
  my_replace hu hv huv hyz (by rw [hz]; omega) fun t' k hk => hq t' k _ hk (len_replace1 y hz hx hn)
theorem linesF10_3 : True := by
  k_with "call builtin:str.replace" => refine Stop.out ?_
  trivial
theorem law_spoiled_cl (x : Str) (t : Tok) (z : Int) (tz : Tok) : Cl w mean mg mb 3 155 [.str x t, .int z tz] (fun h => x.length ≤ 1000) (fun _ v _ => ∃ y t', v = .str y t' ∧ y.length ≤ 100000) := by
  refine cl_of (binds := [(PySem.Str.ofString "label", _), (PySem.Str.ofString "number", _)]) (by k_is) (by k_is) (fun s => BindsTo.of_eq rfl) (locs rfl) (by decide) rfl rfl rfl ?_
  intro dp un gd outer A₀ base g L h₁ s B' F' X' N' T' hdp hun hD hpre hs
  subst hs
  (try dsimp only [kstB, List.reverse, List.reverseAux] at F')
  (try dsimp only)
  k_fold
  have hx : x.length ≤ 1000 := hpre
  k_steps
  all_goals try (((try dsimp only [MyPost, WPost, XPost]); (try k_unfold); (try dsimp only [MyPost, WPost, XPost]); (try k_unfold); (try dsimp only [MyPost, WPost, XPost]); (try k_unfold); (try dsimp only); refine Done.intro (by assumption) ?_); refine ⟨_, _, rfl, ?_⟩)
  all_goals try omega
  all_goals (try (obtain ⟨l1, l2, l3, l4, l5, l6, l7, l8, l9, la, lb, lc⟩ := lit1; simp only [len_app, l1, l2, l3, l4, l5, l6, l7, l8, l9, la, lb, lc]; omega))
  unfold Stop
  (try dsimp only [List.nil_append, List.cons_append])
  refine my_replace1 1000 (by decide +kernel) hx (by decide) (by first | (with_unfolding_all (show (_ : Nat) ≠ (_ : Nat)); omega) | omega | (simp; done) | (simp; omega)) (by first | (with_unfolding_all (show (_ : Nat) ≠ (_ : Nat)); omega) | omega | (simp; done) | (simp; omega)) (by first | (with_unfolding_all (show (_ : Nat) ≠ (_ : Nat)); omega) | omega | (simp; done) | (simp; omega)) (by decide +kernel) ?_
  intro t1 k1 y1 hk1 b1
  have hk1' : 0 < k1 := Nat.lt_of_lt_of_le (Nat.succ_pos _) hk1
  clear hk1
  k_unmd
  k_steps
  unfold Stop
  (try dsimp only [List.nil_append, List.cons_append])
  refine my_replace1 2001 (by decide +kernel) b1 (by decide) (by first | (with_unfolding_all (show (_ : Nat) ≠ (_ : Nat)); omega) | omega | (simp; done) | (simp; omega)) (by first | (with_unfolding_all (show (_ : Nat) ≠ (_ : Nat)); omega) | omega | (simp; done) | (simp; omega)) (by first | (with_unfolding_all (show (_ : Nat) ≠ (_ : Nat)); omega) | omega | (simp; done) | (simp; omega)) (by decide +kernel) ?_
  intro t2 k2 y2 _ b2
  k_unmd
  k_steps
  ((try dsimp only [MyPost, WPost, XPost]); (try k_unfold); (try dsimp only [MyPost, WPost, XPost]); (try k_unfold); (try dsimp only [MyPost, WPost, XPost]); (try k_unfold); (try dsimp only); refine Done.intro (by assumption) ?_)
  exact ⟨_, _, rfl, by omega⟩
end Mine
end
section
open PySem PySem.W PyProof.Rows PySem.Calls PyProof.Rows.LCg
set_option maxRecDepth 100000
set_option maxHeartbeats 8000000
namespace Mine
theorem sectF11 : True := by
  w_top off
  k_with_none
  trivial
variable {w : World} {mean : ExcName → Option Value} {mg mb : Str → Option Value}
theorem linesF11_1 : True := by
  k_with "eval ListComp" => refine Stop.out ?_
  k_with "exec Assign cons ListComp" => refine Stop.out ?_
  k_with "CompSrc" => refine Stop.out ?_
  trivial
theorem kpD {h₀ h : Heap} {L l : Addr} {m : Str → Option Value} {vs : List Value} {ns : List Int} {z : Int} (F : Fr h₀ L h m) (hl : h₀.IsList l vs.toArray) (hi : IntsAre vs ns) (hn : ns.length ≤ 1000) (hz : 0 ≤ z) : h.IsList l vs.toArray ∧ IntsAre vs ns ∧ ns.length ≤ 1000 ∧ 0 ≤ z :=
  ⟨hl.at fun o e => F.keep _ _ e, hi, hn, hz⟩
theorem linesF11_2 : True := by
  k_with "call ref" => ((k_here; with_reducible refine my_at 117 ?_); k_dflt ((refine' Cl.useS (law_digit_cl _ _ _ _ _) ?k1 ?k2 ?k3 ?k4 ?k5 ?kK ?kd ?ku ?kp ?_; (case k1 => k_asm); (case k2 => k_asm); (case k3 => k_asm); (case k4 => k_asm); (case k5 => k_asm); (case kK => first | exact rfl | assumption); (case kd => (try dsimp only); omega); (case ku => (try dsimp only); omega)); (case kp => (refine kpD (by k_asm) (by assumption) (by assumption) (by omega) (by omega))); k_whole); (intro h9 tk9 F9 N9 t9; try k_sweep))
  trivial
theorem my_menu {prog : Program} {A : Around} {E : Value → Shared → Prop} {s : Shared} {value slice : PySem.Expr} {l : Addr} {vs : List Value} {i : Int} {u : Tok} {Q : Value → Shared → Prop} (hl : s.heap.IsList l vs.toArray) (hw : ∀ v ∈ vs, ∃ y t, v = .str y t ∧ y.length ≤ 64) (h0 : 0 ≤ i) (h1 : i < (vs.length : Int)) (hfit : i < 2 ^ 63) (h : ∀ y t', y.length ≤ 64 → Q (.str y t') s)
    (hs : subscripted slice false (.ref l) (.int i u) = operate [.ref l, .int i u] (getItem (.ref l) (.int i u)) := by with_unfolding_all rfl) :
    wpAny (model prog w) A (subscriptTail value slice (.ref l) (.int i u)) Q E s := by
  have hw' : StrsAre vs (vs.map vStr) := strs_of vs fun v hv => by obtain ⟨y, t, e, _⟩ := hw v hv; exact ⟨y, t, e⟩
  have h1' : i < ((vs.map vStr).length : Int) := by rw [List.length_map]; exact h1
  refine KTb.item_list hl hw' h0 h1' hfit (fun t' hlt => h _ t' ?_) hs
  rw [List.getD_eq_getElem?_getD, List.getElem?_eq_getElem hlt]
  obtain ⟨v, hv, e⟩ := List.mem_map.mp (List.getElem_mem hlt)
  obtain ⟨y, t, e2, hy⟩ := hw v hv
  show ((vs.map vStr)[i.toNat]).length ≤ 64
  rw [← e, e2]; exact hy
theorem ints_cat : ∀ {vs ws : List Value} {a b : List Int}, IntsAre vs a → IntsAre ws b → IntsAre (vs ++ ws) (a ++ b)
  | _, _, _, _, .nil, h => h
  | _, _, _, _, .cons _ _ h1, h => .cons _ _ (ints_cat h1 h)
theorem strs_cat {vs ws : List Value} {a b : List Str} (h1 : StrsAre vs a) (h2 : StrsAre ws b) : StrsAre (vs ++ ws) (a ++ b) := h1.append' h2
theorem my_newMenu {A : Around} {E : Value → Shared → Prop} {s : Shared} {h₀ : Heap} {L : Addr} {m : Str → Option Value} {news : List (Addr × Obj)} {vs : List Value} {Q : Value → Shared → Prop} (F : Fr h₀ L s.heap m) (N : News h₀ L s.heap news) (hw : ∀ v ∈ vs, ∃ y t, v = .str y t ∧ y.length ≤ 64) (hsz : vs.length ≤ 1000)
    (h : ∀ (l : Addr) (h' : Heap) (vs' : List Value), vs'.length = vs.length → (∀ v ∈ vs', ∃ y t, v = .str y t ∧ y.length ≤ 64) → Fr h₀ L h' m → News h₀ L h' ((l, listOf vs'.toArray 0) :: news) → (∀ p ∈ news, p.1 < l) → Q (.ref l) { s with heap := h' }) : wpAny (model PR w) A (newList vs) Q E s :=
  newList_K F N (fun l h' F' N' l1 => h l h' vs rfl hw F' N' l1) (by rw [sizeLine_eq]; omega)
theorem linesF11_3 : True := by
  k_with "newList" => (k_here; (with_reducible show wpAny _ _ (newList (Value.str _ _ :: _)) _ _ _); k_dflt (refine' my_newMenu ?k1 ?k2 ?mw ?k4 ?_; (case k1 => k_asm); (case k2 => k_asm); (case mw => repeat (first | exact List.forall_mem_nil _ | (refine List.forall_mem_cons.mpr ⟨⟨_, _, rfl, ?_⟩, ?_⟩; (focus first | assumption | decide +kernel | omega)))); (case k4 => simp only [List.length_cons, List.length_nil]; decide); k_whole); intro l' h' vs9 hl9 hm9 F' N' l1; (simp only [List.length_cons, List.length_nil, Nat.reduceAdd] at hl9); (try k_lt l1); (try k_sweep))
  k_with "subscriptTail" => (k_here; (with_reducible show wpAny _ _ (subscriptTail _ _ (Value.ref _) (Value.int _ _)) _ _ _); k_dflt (refine' my_menu ?ml ?mw ?m0 ?m1 ?mf ?_; (case ml => ktb_isList); (case mw => first | assumption | exact List.forall_mem_append.mpr ⟨by assumption, by assumption⟩); (case m0 => exact Int.fmod_nonneg_of_pos _ (by decide)); (case m1 => exact Int.lt_of_lt_of_le (Int.fmod_lt_of_pos _ (by decide)) (by (try simp only [List.length_append]); omega)); (case mf => exact Int.lt_of_lt_of_le (Int.fmod_lt_of_pos _ (by decide)) (by decide))); intro y9 t9 hy9)
  trivial
theorem law_text_cl (l : Addr) (vs : List Value) (ns : List Int) (x : Str) (t : Tok) : Cl w mean mg mb 2 165 [.ref l, .str x t] (fun h => h.IsList l vs.toArray ∧ IntsAre vs ns ∧ ns.length ≤ 1000 ∧ x.length ≤ 100000) (fun _ v _ => ∃ y t', v = .str y t' ∧ y.length ≤ 1000000) := by
  refine cl_ofC (binds := [(PySem.Str.ofString "script", _), (PySem.Str.ofString "label", _)]) (by k_is) (by k_is) (fun s => BindsTo.of_eq rfl) rfl (by decide +kernel) rfl rfl rfl ?_
  intro dp un gd outer A₀ base g L h₁ cells s B' F' X' N' Y' T' hdp hun hD hpre hs
  subst hs
  k_cells Y'
  (try simp only [List.cons_append, List.nil_append] at N')
  (try k_unmd)
  (try dsimp only)
  (try k_unmd)
  k_fold
  obtain ⟨hl, hi, hn, hx⟩ := hpre
  k_steps
  rename Fr _ _ _ _ => F1
  rename News _ _ _ _ => N1
  unfold Stop
  refine LCg.Assign_ListComp_U (F₀ := F1) (by rfl) (by with_unfolding_all rfl) (by with_unfolding_all rfl) (by decide) (by rfl) (by decide) (by rfl) (by rfl) (by rfl) ?_
  k_steps
  unfold Stop
  rename Fr _ _ _ _ => F2
  rename News _ _ _ _ => N2
  rename IsRange _ _ _ _ _ _ _ _ => hr
  refine CompSrc.range rfl F2 N2 hr (by decide) (n := 8) (by decide) (by rw [PySem.sizeLine_eq]; omega) ?_
  intro g'
  refine my_rest (fun i ys => ∃ ms, IntsAre ys ms ∧ ms.length = i) trivial ?_ ?_ _ 0 [] (Nat.zero_add _) ⟨[], .nil, rfl⟩
  · rintro i ys v I oI C oC D m₂ h tk E' hi' ⟨tv, rfl⟩ ⟨ms, hv, hv2⟩ hNs hxv F N off hne
    k_fold
    k_steps
    ((try dsimp only); (rename Fr _ _ _ _ => Fe); (rename News _ _ _ _ => Ne); refine CEnd.intro Fe Ne (by with_unfolding_all k_allIn) ?_)
    exact ⟨ms ++ [_], ints_cat hv (.cons _ _ .nil), by rw [List.length_append, hv2]; rfl⟩
  · rintro ys ⟨ms, hv, hv2⟩ D h tk F N off
    k_steps
    ((try dsimp only [MyPost, WPost, XPost]); (try k_unfold); (try dsimp only [MyPost, WPost, XPost]); (try k_unfold); (try dsimp only [MyPost, WPost, XPost]); (try k_unfold); (try dsimp only); refine Done.intro (by assumption) ?_)
    exact ⟨_, _, rfl, by omega⟩
end Mine
end
section
open PySem PySem.W PyProof.Rows PySem.Calls PyProof.Rows.LCg
set_option maxRecDepth 100000
set_option maxHeartbeats 8000000
namespace Mine
theorem sectF12 : True := by
  w_top off
  k_with_none
  trivial
variable {w : World} {mean : ExcName → Option Value} {mg mb : Str → Option Value}
def restL : List Str := textsIn (PySem.Str.ofString "_law_rest")
theorem NewStrsL {ns : List Str} {vs : List Value} {g h' : Heap} {L a : Addr} {k : Nat} {news : List (Addr × Obj)} (N : News g L h' ((a, listOf vs.toArray k) :: news)) (hs : StrsAre vs (vs.map vStr)) (e : vs.map vStr = ns) : ∃ ws k, StrsAre ws ns ∧ NewObj (listOf ws.toArray k) g (.ref a) h' :=
  ⟨vs, k, e ▸ hs, NewObj.intro N (.head _)⟩
theorem law_rest_cl : Cl w mean mg mb 1 124 [] (fun _ => True) (fun g v h' => ∃ ws k, StrsAre ws restL ∧ NewObj (listOf ws.toArray k) g v h') := by
  refine cl_of (binds := []) (by k_is) (by k_is) (fun s => BindsTo.of_eq rfl) (locs rfl) (by decide) rfl rfl rfl ?_
  intro dp un gd outer A₀ base g L h₁ s B' F' X' N' T' hdp hun hD hpre hs
  subst hs
  (try dsimp only [kstB, List.reverse, List.reverseAux] at F')
  (try dsimp only)
  k_fold
  k_steps
  ((try dsimp only [MyPost, WPost, XPost]); (try k_unfold); (try dsimp only [MyPost, WPost, XPost]); (try k_unfold); (try dsimp only [MyPost, WPost, XPost]); (try k_unfold); (try dsimp only); refine Done.intro (by assumption) ?_)
  rename News _ _ _ _ => N1
  refine NewStrsL N1 ?_ ?_
  · repeat (first | exact StrsAre.nil | refine StrsAre.cons _ _ ?_)
  · with_unfolding_all rfl
section
variable {prog : Program} {A : Around} {E : Value → Shared → Prop} {s : Shared} {env : Env} {h₀ : Heap} {x : Str} {body : List Stmt} {Q : Flow → Shared → Prop} {σ : Type}
theorem my_range {r : Addr} {a b : Int} {t u v : Tok} {n : Nat} {m₀ : Str → Option Value} (Led : σ → List (Addr × Obj)) (Mp : σ → Str → Option Value) (P : Nat → σ → Prop) (c₀ : σ)
    (hh : A.handled = none) (hr : IsRange s.heap r a b 1 t u v) (hsm : Builtin.Range.small a b 1 = true) (hn : Builtin.Range.rangeSize a b 1 = ((n : Nat) : Int)) (F : Fr h₀ env.locals s.heap m₀) (N : News h₀ env.locals s.heap (Led c₀)) (hm : ∀ z, z ≠ x → m₀ z = Mp c₀ z) (hp : P 0 c₀)
    (turn : ∀ i c t h tk own, i < n → OwnOff own ((Led c₀).map (·.1)) → P i c → (Led c).map (·.1) = (Led c₀).map (·.1) → Fr h₀ env.locals h (fun y => if y = x then some (.int (a + (i : Int)) t) else Mp c y) → News h₀ env.locals h (Led c ++ own) →
      wpAny (model prog w) A (execs body env) (MyPost h₀ env.locals Led Mp x (P (i + 1)) own ((Led c₀).map (·.1)) { s with heap := h, toks := tk } Q) E { s with heap := h, toks := tk })
    (done : ∀ c u h tk, P n c → (Led c).map (·.1) = (Led c₀).map (·.1) → Fr h₀ env.locals h (fun y => if y = x then u else Mp c y) → News h₀ env.locals h (Led c) → Q .next { s with heap := h, toks := tk }) :
    wpAny (model prog w) A (pyIter (.ref r)) (fun it s₂ => LoopAtV prog w A h₀ env x body Q E it s₂) E s := by
  refine wpAny_pyIter_range hr hsm ?_
  refine my_walk Led Mp P c₀ (LCg.range_walks hh a n) ?_ ?_ ?_ ?_ (by show IsRangeIter _ _ _ _ _; rw [hn]; simpa using Heap.get?_push_size _ rfl) (F.push _) (fun p hp => ⟨Heap.get?_push_of_some _ (N p hp).1, (N p hp).2⟩) hm hp ?_ ?_
  · intro hm
    exact absurd F.ns.lt ((List.mem_singleton.mp hm) ▸ Nat.lt_irrefl _)
  · intro b' hb
    rw [List.mem_singleton.mp hb]
    exact next_is_new F
  · intro p hp hI
    exact absurd (Heap.lt_size (N p hp).1) ((List.mem_singleton.mp hI) ▸ Nat.lt_irrefl _)
  · intro p hp hI
    exact absurd (Heap.lt_size (N p hp).1) ((List.mem_singleton.mp hI) ▸ Nat.lt_irrefl _)
  · rintro i c v h tk own hi ⟨t', rfl⟩ hoff hc hadr F₁ N₁
    exact turn i c t' h tk own hi hoff hc hadr F₁ N₁
  · intro c u h tk hc hadr F₁ N₁
    exact done c u h tk hc hadr F₁ N₁
theorem my_listL {L : Addr} {l : Addr} {vs : Array Value} {m₀ : Str → Option Value} (Led : σ → List (Addr × Obj)) (G : (Str → Option Value) → σ → Str → Option Value) (P : Nat → σ → Prop) (c₀ : σ)
    (hLe : env.locals = L) (hh : A.handled = none) (hl : s.heap.IsList l vs) (hlL : l ≠ L) (hlN : ∀ q ∈ Led c₀, q.1 ≠ l) (F : Fr h₀ L s.heap m₀) (N : News h₀ L s.heap (Led c₀)) (hm : ∀ z, z ≠ x → m₀ z = G m₀ c₀ z) (hp : P 0 c₀)
    (turn : ∀ i c v h tk own, vs[i]? = some v → OwnOff own ((Led c₀).map (·.1)) → P i c → (Led c).map (·.1) = (Led c₀).map (·.1) → Fr h₀ L h (fun y => if y = x then some v else G m₀ c y) → News h₀ L h (Led c ++ own) →
      wpAny (model prog w) A (execs body env) (MyPost h₀ L Led (G m₀) x (P (i + 1)) own ((Led c₀).map (·.1)) { s with heap := h, toks := tk } Q) E { s with heap := h, toks := tk })
    (done : ∀ c u h tk, P vs.size c → (Led c).map (·.1) = (Led c₀).map (·.1) → Fr h₀ L h (fun y => if y = x then u else G m₀ c y) → News h₀ L h (Led c) → Q .next { s with heap := h, toks := tk }) :
    wpAny (model prog w) A (pyIter (.ref l)) (fun it s₂ => LoopAtV prog w A h₀ env x body Q E it s₂) E s := by
  subst hLe
  exact my_list Led (G m₀) P c₀ hh hl hlL hlN F N hm hp turn done
theorem my_rangeL {L : Addr} {r : Addr} {a b : Int} {t u v : Tok} {n : Nat} {m₀ : Str → Option Value} (Led : σ → List (Addr × Obj)) (G : (Str → Option Value) → σ → Str → Option Value) (P : Nat → σ → Prop) (c₀ : σ)
    (hLe : env.locals = L) (hh : A.handled = none) (hr : IsRange s.heap r a b 1 t u v) (hsm : Builtin.Range.small a b 1 = true) (hn : Builtin.Range.rangeSize a b 1 = ((n : Nat) : Int)) (F : Fr h₀ L s.heap m₀) (N : News h₀ L s.heap (Led c₀)) (hm : ∀ z, z ≠ x → m₀ z = G m₀ c₀ z) (hp : P 0 c₀)
    (turn : ∀ i c t h tk own, i < n → OwnOff own ((Led c₀).map (·.1)) → P i c → (Led c).map (·.1) = (Led c₀).map (·.1) → Fr h₀ L h (fun y => if y = x then some (.int (a + (i : Int)) t) else G m₀ c y) → News h₀ L h (Led c ++ own) →
      wpAny (model prog w) A (execs body env) (MyPost h₀ L Led (G m₀) x (P (i + 1)) own ((Led c₀).map (·.1)) { s with heap := h, toks := tk } Q) E { s with heap := h, toks := tk })
    (done : ∀ c u h tk, P n c → (Led c).map (·.1) = (Led c₀).map (·.1) → Fr h₀ L h (fun y => if y = x then u else G m₀ c y) → News h₀ L h (Led c) → Q .next { s with heap := h, toks := tk }) :
    wpAny (model prog w) A (pyIter (.ref r)) (fun it s₂ => LoopAtV prog w A h₀ env x body Q E it s₂) E s := by
  subst hLe
  exact my_range Led (G m₀) P c₀ hh hr hsm hn F N hm hp turn done
end
theorem putT_len (tb : List (Str × Str)) (k v : Str) : (putT tb k v).length ≤ tb.length + 1 := by
  unfold putT
  split
  · rw [List.length_map]; exact Nat.le_succ _
  · rw [List.length_append]; exact Nat.le_refl _
theorem my_store {A : Around} {E : Value → Shared → Prop} {s : Shared} {h₀ : Heap} {L d : Addr} {m : Str → Option Value} {news : List (Addr × Obj)} {u : Obj → List (Addr × Obj)} {o : Obj} {tb : List (Str × Str)} {k v : Str} {t t2 : Tok} {Q : Unit → Shared → Prop}
    (F : Fr h₀ L s.heap m) (N : News h₀ L s.heap news) (U : UpdF d o news u) (hT : TabObj w o tb) (hz : tb.length ≤ 1000000)
    (h : ∀ h' o', Fr h₀ L h' m → News h₀ L h' (u o') → TabObj w o' (putT tb k v) → (putT tb k v).length ≤ tb.length + 1 → Q () { s with heap := h', toks := s.toks + 1 }) : wpAny (model PR w) A (setItem (.ref d) (.str k t) (.str v t2)) Q E s := by
  obtain ⟨kvs, hd, hf⟩ := hT
  have hl : (tbD tb).length = tb.length := by unfold tbD; rw [List.length_map]
  refine setItem_K PyProof.V.same_str (strKind_is _ _ _ _) (PyProof.V.Flat.str _ _) F N U hd hf (fun h' o' F' N' hd' hf' => h h' o' F' N' ⟨_, hd', ?_⟩ (putT_len _ _ _)) (by rw [hl, sizeLine_eq]; omega)
  rw [tbD_put]; exact hf'
theorem my_item {A : Around} {E : Value → Shared → Prop} {s : Shared} {h₀ : Heap} {L d : Addr} {news : List (Addr × Obj)} {o : Obj} {tb : List (Str × Str)} {k v : Str} {t : Tok} {value slice : PySem.Expr} {Q : Value → Shared → Prop}
    (N : News h₀ L s.heap news) (hm : (d, o) ∈ news) (T : TabObj w o tb) (hs : (d == sysModules) = false) (e : lookT tb k = some v) (h : ∀ t', Q (.str v t') { s with toks := s.toks + 1 })
    (hsub : subscripted slice false (.ref d) (.str k t) = operate [.ref d, .str k t] (getItem (.ref d) (.str k t)) := by with_unfolding_all rfl) (hg : ∀ r, letTemporaryGo value (.ref d) r = pure () := by intro _; with_unfolding_all rfl) : wpAny (model PR w) A (subscriptTail value slice (.ref d) (.str k t)) Q E s := by
  have T' := T.tab (N _ hm).1 hs
  refine item_strTab T' (by rw [tbD_look, e]; rfl) ?_ hsub hg
  intro v' hv
  obtain ⟨t', rfl⟩ := PyProof.V.Flat.str_inv hv
  exact h t'
end Mine
end
section
open PySem PySem.W PyProof.Rows PySem.Calls PyProof.Rows.LCg
set_option maxRecDepth 100000
set_option maxHeartbeats 8000000
namespace Mine
theorem sectF13 : True := by
  w_top off
  k_with_none
  trivial
variable {w : World} {mean : ExcName → Option Value} {mg mb : Str → Option Value}
theorem linesF13_1 : True := by
  k_with "call ref" => ((k_here; with_reducible refine my_at 124 ?_); k_dflt ((refine' Cl.useW2 (law_rest_cl) ?k1 ?k2 ?k3 ?k4 ?k5 ?kK ?kd ?ku ?kp ?_; (case k1 => k_asm); (case k2 => k_asm); (case k3 => k_asm); (case k4 => k_asm); (case k5 => k_asm); (case kK => first | exact rfl | assumption); (case kd => (try dsimp only); omega); (case ku => (try dsimp only); omega)); (case kp => first | exact trivial | k_asm); k_whole); (intro ws9 kz9 hi9 x9 h9 tk9 F9 n10 N9; try k_sweep))
  k_with "exec For Name List cons nil" => (k_here; (with_reducible show wpAny _ _ (exec (Stmt.For _ _ (_ :: _ :: _) _ _) _) _ _ _); refine Stop.out ?_)
  k_with "pyIter ref" => (k_here; (with_reducible show wpAny _ _ (pyIter (Value.ref _)) (fun _ _ => LoopAtV _ _ _ _ _ _ (_ :: _ :: _) _ _ _ _) _ _); refine Stop.out ?_)
  k_with "pyIter ref" => (k_here; (with_reducible show wpAny _ _ (pyIter (Value.ref _)) (fun _ _ => LoopAtV _ _ _ _ _ _ (Stmt.For _ _ _ _ _ :: _) _ _ _ _) _ _); refine Stop.out ?_)
  k_with "call builtin:str.split" => (k_here; (try dsimp only [List.nil_append, List.cons_append]); (with_reducible show wpAny _ _ (call (Value.builtin "str.split") [Value.str _ _, Value.str _ _]) _ _ _); k_dflt (refine my_split (by k_asm) (by k_asm) (by first | decide +kernel | k_asm) (by k_asm) ?_); intro n9 ls9 t9 r9 D9 h9 tk9 e9 hs9 hl9 F9 N9 l9; (try k_lt l9); (try k_sweep))
  k_with "subscriptTail Name Slice ref ref" => (k_here; (with_reducible show wpAny _ _ (subscriptTail _ (Expr.Slice (some (Expr.Constant (Const.int 1) _ _)) none none _) (Value.ref _) (Value.ref _)) _ _ _); (with_reducible rename Fr _ _ _ _ => F'); (with_reducible rename News _ _ _ _ => N'); (refine my_tail (s := ⟨_, _, _, _, _⟩) F' N' (News.isList N' (by k_mem)) (by k_asm) ?_); intro D9 h9 F9 N9 l9; (try k_lt l9); (try k_sweep))
  k_with "exec For Name Subscript cons nil" => refine Stop.out ?_
  k_with "exec For Name Call cons nil" => refine Stop.out ?_
  k_with "setItem ref str" => (k_here; (with_reducible show wpAny _ _ (setItem (Value.ref _) (Value.str _ _) (Value.str _ _)) _ _ _); (rename Fr _ _ _ _ => Fx); (rename News _ _ _ _ => Nx); (rename TabObj _ _ _ => Tx); k_dflt (refine' my_store Fx Nx ?U Tx ?z ?_; (case U => first | k_updF | (repeat (first | (refine' UpdF.head ?_; k_dflt assumption) | (refine' UpdF.tail ?_ ?_; (focus (k_dflt (first | assumption | omega))))))); (case z => omega)); intro h9 o9 F9 N9 T9 hl9; (try dsimp only at N9); (try k_sweep))
  trivial
theorem my_newInts {A : Around} {E : Value → Shared → Prop} {s : Shared} {h₀ : Heap} {L : Addr} {m : Str → Option Value} {news : List (Addr × Obj)} {vs : List Value} {Q : Value → Shared → Prop} (F : Fr h₀ L s.heap m) (N : News h₀ L s.heap news) (hi : IntsAre vs (vs.map vInt)) (hsz : vs.length ≤ 1000)
    (h : ∀ l h' vs', IntsAre vs' (vs.map vInt) → Fr h₀ L h' m → News h₀ L h' ((l, listOf vs'.toArray 0) :: news) → (∀ p ∈ news, p.1 < l) → Q (.ref l) { s with heap := h' }) : wpAny (model PR w) A (newList vs) Q E s :=
  newList_K F N (fun l h' F' N' l1 => h l h' vs hi F' N' l1) (by rw [sizeLine_eq]; omega)
theorem linesF13_2 : True := by
  k_with "newList" => (k_here; (with_reducible show wpAny _ _ (newList (Value.int _ _ :: Value.int _ _ :: _)) _ _ _); k_dflt (refine' my_newInts ?k1 ?k2 ?k3 ?k4 ?_; (case k1 => k_asm); (case k2 => k_asm); (case k3 => repeat (first | exact IntsAre.nil | refine IntsAre.cons _ _ ?_)); (case k4 => simp only [List.length_cons, List.length_nil]; decide); k_whole); intro l' h' vs9 hi9 F' N' l1; (simp only [List.map_cons, List.map_nil, vInt] at hi9); (try k_lt l1); (try k_sweep))
  k_with "subscriptTail Name Name ref int" => (k_here; (with_reducible show wpAny _ _ (subscriptTail _ _ (Value.ref _) (Value.int _ _)) _ _ _); (with_unfolding_all refine' item_list_ints ?k1 ?k2 ?k3 ?k4 ?k5 ?_; (case k1 => is_list); (case k2 => l_ints); (case k3 => l_idx); (case k4 => l_idx); (case k5 => l_idx); k_whole); intro _; (simp only [Int.reduceToNat, List.getD_cons_succ, List.getD_cons_zero]))
  trivial
abbrev S (x : String) : Str := PySem.Str.ofString x
def decS (n : Nat) : Str := S (toString n)
def numsL : List Int := [1, 2, 3, 4, 5, 6, 7, 8, 9, 10, 11, 13, 14, 15]
def marksL : List Int := [0, 100, 101, 109, 110, 144, 127, 126, 138, 148, 157]
def yearsL : List Int := [0, 1987, 1987, 1988, 1988, 1988, 1987, 1987, 1988, 1989]
def step1 (tb : List (Str × Str)) (n : Nat) : List (Str × Str) :=
  let name := if n = 1 then S "windows-1252" else if n = 9 then S "windows-1254" else if n = 11 then S "windows-874" else S "ISO-8859-" ++ decS n
  let tb := putT (putT (putT tb (S "iso-8859-" ++ decS n) name) (S "iso8859-" ++ decS n) name) (S "iso8859" ++ decS n) name
  let tb := if n ≤ 10 then putT tb (S "iso-ir-" ++ decS (marksL.getD n 0).toNat) name else tb
  if n ≤ 9 then putT (putT tb (S "iso_8859-" ++ decS n) name) (S "iso_8859-" ++ decS n ++ S ":" ++ decS (yearsL.getD n 0).toNat) name else tb
@[irreducible] def kn1 (i : Nat) : List (Str × Str) := (numsL.take i).foldl (fun tb n => step1 tb n.toNat) []
def othersD : List (PyData × PyData) := [(.int 1, .str (S "windows-1252")), (.int 9, .str (S "windows-1254")), (.int 11, .str (S "windows-874"))]
theorem indict {o : Obj} {kvs : List (Int × Value)} {D : List (PyData × PyData)} (h1 : o.IsDictOf (intKind PR w) kvs) (h2 : PyProof.V.FlatPairs PyData.int kvs D) (e : D = othersD) : ∃ kv, o.IsDictOf (intKind PR w) kv ∧ PyProof.V.FlatPairs PyData.int kv othersD := ⟨_, h1, e ▸ h2⟩
abbrev mpo2 (n n' : Str) (M : Str → Option Value) : (Obj × Option Value × Option Value) → Str → Option Value := fun c y => if y = n then c.2.1 else if y = n' then c.2.2 else M y
theorem mpo2_start {x n n' : Str} {M : Str → Option Value} {c : Obj × Option Value × Option Value} (h1 : M n = c.2.1) (h2 : M n' = c.2.2) : ∀ z, z ≠ x → M z = mpo2 n n' M c z := fun z _ => by
  by_cases e : z = n
  · rw [e]; show M n = if n = n then c.2.1 else _; rw [if_pos rfl, h1]
  · by_cases e2 : z = n'
    · rw [e2] at e ⊢; show M n' = if n' = n then _ else if n' = n' then c.2.2 else _; rw [if_neg e, if_pos rfl, h2]
    · show M z = if z = n then _ else if z = n' then _ else M z; rw [if_neg e, if_neg e2]
@[irreducible] def stemT (tb : List (Str × Str)) (n name : Str) (l : List Str) : List (Str × Str) := l.foldl (fun tb st => putT tb (st ++ n) name) tb
theorem ints_at : ∀ {vs : List Value} {ns : List Int} {i : Nat} {v : Value}, IntsAre vs ns → vs[i]? = some v → ∃ t, v = .int (ns.getD i 0) t
  | _, _, _, _, .nil, h => by simp at h
  | _, _, 0, _, .cons _ _ _, h => by cases h; exact ⟨_, rfl⟩
  | _, _, i + 1, _, .cons _ _ r, h => by simpa using ints_at r (by simpa using h)
theorem alllt {a : Addr} {l : List (Addr × Obj)} (h : AllLt a l) : ∀ q ∈ l, q.1 < a := by
  exact kst_ltOf h
theorem stem_len {j : Nat} {x : Str} (hj : j < 3) (h : [S "iso-8859-", S "iso8859-", S "iso8859"][j]? = some x) : x.length ≤ 64 := by
  match j, hj with
  | 0, _ => cases h; decide +kernel
  | 1, _ => cases h; decide +kernel
  | 2, _ => cases h; decide +kernel
theorem stemT_zero (tb : List (Str × Str)) (n name : Str) (l : List Str) : stemT tb n name (l.take 0) = tb := by unfold stemT; rfl
theorem mpo2_end {n n' x : Str} (hnn : n ≠ n') {M : Str → Option Value} {a b a' b' v : Option Value} {o : Obj} : ∀ z, z ≠ x → (if z = n' then b else if z = n then a else if z = x then v else if z = n then a' else if z = n' then b' else M z) = mpo2 n n' M (o, a, b) z := fun z hz => by
  by_cases e : z = n
  · rw [e]
    show _ = if n = n then a else _
    rw [if_neg hnn, if_pos rfl, if_pos rfl]
  · by_cases e2 : z = n'
    · rw [e2]
      show _ = if n' = n then a else if n' = n' then b else _
      rw [if_pos rfl, if_neg (fun h => hnn h.symm), if_pos rfl]
    · show _ = if z = n then a else if z = n' then b else M z
      rw [if_neg e2, if_neg e, if_neg hz, if_neg e, if_neg e2, if_neg e, if_neg e2]
def latN : List Nat := [0, 1, 2, 3, 4, 9, 10]
def name1 (n : Nat) : Str := if n = 1 then S "windows-1252" else if n = 9 then S "windows-1254" else if n = 11 then S "windows-874" else S "ISO-8859-" ++ decS n
@[irreducible] def kn2 (i : Nat) : List (Str × Str) := (List.range i).foldl (fun tb k => stemT tb (decS (k + 1)) (name1 (latN.getD (k + 1) 0)) [S "csisolatin", S "latin", S "l"]) (kn1 14)
theorem kn2_zero : kn2 0 = kn1 14 := by unfold kn2; rw [List.range_zero, List.foldl_nil]
theorem News.sub2 {h₀ h : Heap} {L : Addr} {a b : Addr × Obj} {news : List (Addr × Obj)} (N : News h₀ L h (a :: b :: news)) : News h₀ L h news := fun p hp => N p (.tail _ (.tail _ hp))
theorem stem_len2 {j : Nat} {x : Str} (hj : j < 3) (h : [S "csisolatin", S "latin", S "l"][j]? = some x) : x.length ≤ 64 := by
  match j, hj with
  | 0, _ => cases h; decide +kernel
  | 1, _ => cases h; decide +kernel
  | 2, _ => cases h; decide +kernel
theorem kn1_zero : kn1 0 = [] := by unfold kn1; rfl
theorem stemT_len (tb : List (Str × Str)) (n name : Str) : ∀ (l : List Str), (stemT tb n name l).length ≤ tb.length + l.length := by
  intro l
  unfold stemT
  induction l generalizing tb with
  | nil => exact Nat.le_refl _
  | cons a r ih =>
    rw [List.foldl_cons, List.length_cons]
    have h1 := ih (putT tb (a ++ n) name)
    have h2 := putT_len tb (a ++ n) name
    omega
theorem kn1_len (i : Nat) (h : i < 14) : (kn1 i).length ≤ 1000 := by
  have a : ((List.range 14).all fun i => decide ((kn1 i).length ≤ 1000)) = true := by decide +kernel
  exact of_decide_eq_true (List.all_eq_true.mp a i (List.mem_range.mpr h))
theorem kn2_len (i : Nat) (h : i ≤ 6) : (kn2 i).length ≤ 1000 := by
  have a : ((List.range 7).all fun i => decide ((kn2 i).length ≤ 1000)) = true := by decide +kernel
  exact of_decide_eq_true (List.all_eq_true.mp a i (List.mem_range.mpr (by omega)))
theorem stem_bound {tb : List (Str × Str)} {n name : Str} {l : List Str} (h : tb.length ≤ 1000) (hl : l.length ≤ 3) : (stemT tb n name l).length ≤ 2000 :=
  Nat.le_trans (stemT_len _ _ _ _) (by omega)
@[irreducible] def kn3 (i : Nat) : List (Str × Str) := (List.range i).foldl (fun tb k => stemT tb (decS k) (S "windows-125" ++ decS k) [S "cp125", S "windows-125", S "x-cp125"]) (kn2 6)
theorem kn3_zero : kn3 0 = kn2 6 := by unfold kn3; rw [List.range_zero, List.foldl_nil]
theorem kn3_len (i : Nat) (h : i ≤ 9) : (kn3 i).length ≤ 1000 := by
  have a : ((List.range 10).all fun i => decide ((kn3 i).length ≤ 1000)) = true := by decide +kernel
  exact of_decide_eq_true (List.all_eq_true.mp a i (List.mem_range.mpr (by omega)))
theorem stem_len3 {j : Nat} {x : Str} (hj : j < 3) (h : [S "cp125", S "windows-125", S "x-cp125"][j]? = some x) : x.length ≤ 64 := by
  match j, hj with
  | 0, _ => cases h; decide +kernel
  | 1, _ => cases h; decide +kernel
  | 2, _ => cases h; decide +kernel
@[irreducible] def rowT (tb : List (Str × Str)) (n : Str) (l : List Str) : List (Str × Str) := l.foldl (fun tb k => putT tb k n) tb
def rowS (tb : List (Str × Str)) (row : Str) : List (Str × Str) :=
  match Txt.split row (S " ") with
  | [] => tb
  | n :: ls => rowT tb n ls
@[irreducible] def kn4 (i : Nat) : List (Str × Str) := (restL.take i).foldl rowS (kn3 9)
theorem kn4_zero : kn4 0 = kn3 9 := by unfold kn4; rw [List.take_zero, List.foldl_nil]
theorem kn4_succ {i : Nat} {row : Str} (h : restL[i]? = some row) : kn4 (i + 1) = rowS (kn4 i) row := by
  unfold kn4
  rw [List.take_add_one, h, List.foldl_append]; rfl
theorem rowT_len (tb : List (Str × Str)) (n : Str) : ∀ (l : List Str), (rowT tb n l).length ≤ tb.length + l.length := by
  intro l
  unfold rowT
  induction l generalizing tb with
  | nil => exact Nat.le_refl _
  | cons a r ih =>
    rw [List.foldl_cons, List.length_cons]
    have h1 := ih (putT tb a n)
    have h2 := putT_len tb a n
    omega
theorem rowT_zero (tb : List (Str × Str)) (n : Str) (l : List Str) : rowT tb n (l.take 0) = tb := by unfold rowT; rfl
theorem rowT_succ (tb : List (Str × Str)) (n : Str) (l : List Str) {j : Nat} {x : Str} (h : l[j]? = some x) : rowT tb n (l.take (j + 1)) = putT (rowT tb n (l.take j)) x n := by
  unfold rowT
  rw [List.take_add_one, h, List.foldl_append]; rfl
theorem rest_short : ∀ r ∈ restL, r.length ≤ 200 := by
  have h : (restL.all fun r => decide (r.length ≤ 200)) = true := by decide +kernel
  intro r hr
  exact of_decide_eq_true (List.all_eq_true.mp h r hr)
theorem rest_len : restL.length = 27 := by decide +kernel
theorem rowS_eq {tb : List (Str × Str)} {row n : Str} {ls : List Str} (h : Txt.split row (S " ") = n :: ls) : rowS tb row = rowT tb n ls := by
  unfold rowS; rw [h]
theorem split_len {row n : Str} {ls : List Str} (h : Txt.split row (S " ") = n :: ls) : ls.length ≤ row.length + 1 := by
  have := (fact_split row (S " ")).2
  rw [h, List.length_cons] at this
  omega
theorem kn4_len (i : Nat) : i ≤ 27 → (kn4 i).length ≤ 1000 + 202 * i := by
  induction i with
  | zero => intro _; rw [kn4_zero]; exact kn3_len 9 (by omega)
  | succ i ih =>
    intro h
    have h0 := ih (by omega)
    obtain ⟨row, hrow⟩ : ∃ row, restL[i]? = some row := ⟨restL[i]'(by rw [rest_len]; omega), by simp [rest_len, h]⟩
    rw [kn4_succ hrow]
    have hr := rest_short row (List.mem_of_getElem? hrow)
    unfold rowS
    split
    · omega
    · rename_i n ls hs
      have h1 := rowT_len (kn4 i) n ls
      have h2 := split_len hs
      omega
abbrev mpo1 (n : Str) (M : Str → Option Value) : (Obj × Option Value) → Str → Option Value := fun c y => if y = n then c.2 else M y
theorem mpo1_start {x n : Str} {M : Str → Option Value} {c : Obj × Option Value} (h1 : M n = c.2) : ∀ z, z ≠ x → M z = mpo1 n M c z := fun z _ => by
  by_cases e : z = n
  · rw [e]; show M n = if n = n then c.2 else _; rw [if_pos rfl, h1]
  · show M z = if z = n then _ else M z; rw [if_neg e]
theorem mpo1_end {n x : Str} {M : Str → Option Value} {b b' v : Option Value} {o : Obj} : ∀ z, z ≠ x → (if z = n then b else if z = x then v else if z = n then b' else M z) = mpo1 n M (o, b) z := fun z hz => by
  by_cases e : z = n
  · rw [e]
    show _ = if n = n then b else _
    rw [if_pos rfl, if_pos rfl]
  · show _ = if z = n then b else M z
    rw [if_neg e, if_neg hz, if_neg e, if_neg e]
theorem led5 (a b c d e : Addr × Obj) (own own5 : List (Addr × Obj)) : ∀ p ∈ a :: b :: c :: d :: e :: own, p ∈ a :: b :: c :: d :: e :: (own ++ own5) := by
  intro p hp
  have : p ∈ (a :: b :: c :: d :: e :: own) ++ own5 := List.mem_append_left _ hp
  simpa using this
theorem own5 (a b c d e : Addr × Obj) (own own5 : List (Addr × Obj)) : ∀ p ∈ own5, p ∈ a :: b :: c :: d :: e :: (own ++ own5) := by
  intro p hp
  have : p ∈ (a :: b :: c :: d :: e :: own) ++ own5 := List.mem_append_right _ hp
  simpa using this
theorem led4 (a b c d : Addr × Obj) (own own5 : List (Addr × Obj)) : ∀ p ∈ a :: b :: c :: d :: own, p ∈ a :: b :: c :: d :: (own ++ own5) := by
  intro p hp
  have : p ∈ (a :: b :: c :: d :: own) ++ own5 := List.mem_append_left _ hp
  simpa using this
theorem own4 (a b c d : Addr × Obj) (own own5 : List (Addr × Obj)) : ∀ p ∈ own5, p ∈ a :: b :: c :: d :: (own ++ own5) := by
  intro p hp
  have : p ∈ (a :: b :: c :: d :: own) ++ own5 := List.mem_append_right _ hp
  simpa using this
theorem stemT_succ (tb : List (Str × Str)) (n name : Str) (l : List Str) {j : Nat} {x : Str} (h : l[j]? = some x) : stemT tb n name (l.take (j + 1)) = putT (stemT tb n name (l.take j)) (x ++ n) name := by
  unfold stemT
  rw [List.take_add_one, h, List.foldl_append]; rfl
def knownT : List (Str × Str) := kn4 27
theorem linesF13_3 : True := by
  k_with "eval IfExp" => refine Stop.out ?_
  trivial
theorem nums_at {i : Nat} (h : i < 14) : ∃ n : Nat, ([1, 2, 3, 4, 5, 6, 7, 8, 9, 10, 11, 13, 14, 15] : List Int).getD i 0 = (n : Int) ∧ 1 ≤ n ∧ n ≤ 15 ∧ kn1 (i + 1) = step1 (kn1 i) n := by
  have a : ∀ i < 14, numsL.getD i 0 = ((numsL.getD i 0).toNat : Int) ∧ 1 ≤ (numsL.getD i 0).toNat ∧ (numsL.getD i 0).toNat ≤ 15 := by decide
  obtain ⟨a1, a2, a3⟩ := a i h
  refine ⟨(numsL.getD i 0).toNat, a1, a2, a3, ?_⟩
  unfold kn1
  have e : numsL[i]? = some (numsL.getD i 0) := by
    have hl : i < numsL.length := h
    simp [List.getD_eq_getElem?_getD, List.getElem?_eq_getElem hl]
  rw [List.take_add_one, e, List.foldl_append]; rfl
def JoinP (N : Str) (s : Shared) (v : Value) (s' : Shared) : Prop := ∃ tt k, v = .str N tt ∧ s' = ⟨s.heap, s.gens, s.drawn, k, s.os⟩
theorem my_joinT {A : Around} {t : Sem Value} {Q : Value → Shared → Prop} {E : Value → Shared → Prop} {s : Shared} (N : Str) (ev : wpAny (model PR w) A t (JoinP N s) E s)
    (go : ∀ tt k, Q (.str N tt) ⟨s.heap, s.gens, s.drawn, k, s.os⟩) : wpAny (model PR w) A t Q E s :=
  wpAny_mono ev (fun _ _ ⟨tt, k, e1, e2⟩ => e1 ▸ e2 ▸ go tt k) (fun _ _ x => x)
theorem dec_len {n : Nat} (h : n ≤ 15) : (PySem.Str.ofString (toString (n : Int))).length ≤ 64 := by
  have a : ∀ n < 16, (PySem.Str.ofString (toString ((n : Nat) : Int))).length ≤ 64 := by decide +kernel
  exact a n (by omega)
theorem name1_len {n : Nat} (h : n ≤ 15) : (name1 n).length ≤ 64 := by
  have a : ∀ n < 16, (name1 n).length ≤ 64 := by decide +kernel
  exact a n (by omega)
theorem marks_at {n : Nat} (h : (n : Int) ≤ 10) : ∃ m : Nat, ([0, 100, 101, 109, 110, 144, 127, 126, 138, 148, 157] : List Int).getD (n : Int).toNat 0 = (m : Int) ∧ (PySem.Str.ofString (toString (m : Int))).length ≤ 64 ∧ m ≤ 2000 ∧ m = (marksL.getD n 0).toNat := by
  have a : ∀ n < 11, marksL.getD n 0 = ((marksL.getD n 0).toNat : Int) ∧ (PySem.Str.ofString (toString (((marksL.getD n 0).toNat : Nat) : Int))).length ≤ 64 ∧ (marksL.getD n 0).toNat ≤ 2000 := by decide +kernel
  obtain ⟨a1, a2, a3⟩ := a n (by omega)
  exact ⟨_, a1, a2, a3, rfl⟩
theorem years_at {n : Nat} (h : (n : Int) ≤ 9) : ∃ m : Nat, ([0, 1987, 1987, 1988, 1988, 1988, 1987, 1987, 1988, 1989] : List Int).getD (n : Int).toNat 0 = (m : Int) ∧ (PySem.Str.ofString (toString (m : Int))).length ≤ 64 ∧ m ≤ 2000 ∧ m = (yearsL.getD n 0).toNat := by
  have a : ∀ n < 10, yearsL.getD n 0 = ((yearsL.getD n 0).toNat : Int) ∧ (PySem.Str.ofString (toString (((yearsL.getD n 0).toNat : Nat) : Int))).length ≤ 64 ∧ (yearsL.getD n 0).toNat ≤ 2000 := by decide +kernel
  obtain ⟨a1, a2, a3⟩ := a n (by omega)
  exact ⟨_, a1, a2, a3, rfl⟩
theorem step1_c {tb : List (Str × Str)} {n : Nat} (h : ¬ (n : Int) ≤ 10) : step1 tb n = stemT tb (decS n) (name1 n) [S "iso-8859-", S "iso8859-", S "iso8859"] := by
  unfold step1 stemT name1
  dsimp only
  rw [if_neg (show ¬ n ≤ 10 by omega), if_neg (show ¬ n ≤ 9 by omega)]; rfl
theorem step1_b {tb : List (Str × Str)} {n m : Nat} (h : (n : Int) ≤ 10) (h9 : ¬ (n : Int) ≤ 9) (hm : m = (marksL.getD n 0).toNat) : step1 tb n = putT (stemT tb (decS n) (name1 n) [S "iso-8859-", S "iso8859-", S "iso8859"]) (S "iso-ir-" ++ decS m) (name1 n) := by
  unfold step1 stemT name1
  dsimp only
  rw [if_pos (show n ≤ 10 by omega), if_neg (show ¬ n ≤ 9 by omega), hm]; rfl
theorem step1_a {tb : List (Str × Str)} {n m y : Nat} (h : (n : Int) ≤ 10) (h9 : (n : Int) ≤ 9) (hm : m = (marksL.getD n 0).toNat) (hy : y = (yearsL.getD n 0).toNat) : step1 tb n = putT (putT (putT (stemT tb (decS n) (name1 n) [S "iso-8859-", S "iso8859-", S "iso8859"]) (S "iso-ir-" ++ decS m) (name1 n)) (S "iso_8859-" ++ decS n) (name1 n)) (S "iso_8859-" ++ decS n ++ S ":" ++ decS y) (name1 n) := by
  unfold step1 stemT name1
  dsimp only
  rw [if_pos (show n ≤ 10 by omega), if_pos (show n ≤ 9 by omega), hm, hy]; rfl
theorem lat_at {i : Nat} (h : i < 6) : ∃ q : Nat, ([0, 1, 2, 3, 4, 9, 10] : List Int).getD ((i + 1 : Nat) : Int).toNat 0 = (q : Int) ∧ q ≤ 15 ∧ kn2 (i + 1) = stemT (kn2 i) (decS (i + 1)) (name1 q) [S "csisolatin", S "latin", S "l"] ∧
    ∀ j < 3, lookT (stemT (kn2 i) (decS (i + 1)) (name1 q) (List.take j [S "csisolatin", S "latin", S "l"])) (S "iso8859" ++ decS q) = some (name1 q) := by
  have a : ∀ i < 6, ([0, 1, 2, 3, 4, 9, 10] : List Int).getD (i + 1) 0 = ((latN.getD (i + 1) 0 : Nat) : Int) ∧ latN.getD (i + 1) 0 ≤ 15 := by decide
  have b : ∀ i < 6, ∀ j < 3, lookT (stemT (kn2 i) (decS (i + 1)) (name1 (latN.getD (i + 1) 0)) (List.take j [S "csisolatin", S "latin", S "l"])) (S "iso8859" ++ decS (latN.getD (i + 1) 0)) = some (name1 (latN.getD (i + 1) 0)) := by decide +kernel
  obtain ⟨a1, a2⟩ := a i h
  refine ⟨_, a1, a2, ?_, b i h⟩
  unfold kn2
  rw [List.range_succ, List.foldl_append]; rfl
theorem kn3_succ (i : Nat) : kn3 (i + 1) = stemT (kn3 i) (decS i) (S "windows-125" ++ decS i) [S "cp125", S "windows-125", S "x-cp125"] := by
  unfold kn3
  rw [List.range_succ, List.foldl_append]; rfl
theorem law_known_cl : Cl w mean mg mb 2 131 [] (fun _ => True) (fun g v h' => ∃ o a, v = .ref a ∧ h'.get? a = some o ∧ g.get? a = none ∧ TabObj w o knownT ∧ (a == sysModules) = false) := by
  refine cl_of (binds := []) (by k_is) (by k_is) (fun s => BindsTo.of_eq rfl) (locs rfl) (by decide) rfl rfl rfl ?_
  intro dp un gd outer A₀ base g L h₁ s B' F' X' N' T' hdp hun hD hpre hs
  subst hs
  (try dsimp only [kstB, List.reverse, List.reverseAux] at F')
  (try dsimp only)
  k_fold
  k_steps
  rename PyProof.V.FlatPairs _ _ _ => hf2
  rename Obj.IsDictOf _ _ _ => hd2
  obtain ⟨kv2, hd2', hf2'⟩ := indict hd2 hf2 (by with_unfolding_all rfl)
  clear hf2 hd2
  rename PyProof.V.FlatPairs PyData.str [] _ => hf1
  rename Obj.IsDictOf (PySem.strKind _ _) _ _ => hd1
  have hT1 : TabObj w _ [] := ⟨_, hd1, hf1⟩
  clear hd1 hf1
  rename Fr _ _ _ _ => F1
  rename News _ _ _ _ => N1
  (try dsimp only at F1 N1)
  generalize (Heap.objs _).size = a2 at *
  have l' := trivial
  have h' := trivial
  have vs9 := trivial
  have hi9 := trivial
  have l1 := trivial
  rename_i d _ o1 lo1 hi1 fi1 _ _ _ o2 _ ly _ vy hY _ _ lm _ vm hM hh lo2 ap l1a l1b l1c
  clear l' h' vs9 hi9 l1
  clear hi1 fi1
  unfold Stop
  with_reducible refine For_invVF F1 ?hx ?hp ?h ?hs ?hE
  case hx => rfl
  case hp => rfl
  case hs => intro _; rfl
  case hE => passes_own
  k_steps
  rename Fr _ _ _ _ => F2
  rename News _ _ _ _ => N2
  rename IntsAre _ _ => hN
  rename List Value => vs9
  unfold Stop
  have hl2 := News.isList N2 (.head _)
  with_reducible refine my_listL (σ := Obj × Option Value × Option Value) (fun c => [(lm, listOf vm.toArray 0), (ly, listOf vy.toArray 0), (a2, o2), (d, c.1)]) (mpo2 (PySem.Str.ofString "name") (PySem.Str.ofString "stem")) (fun i c => TabObj w c.1 (kn1 i)) (o1, none, none) ?hLe ?hh hl2 ?hlL ?hlN F2 ?hN ?hm ?hT ?turn ?done
  case hLe => rfl
  case hT => rw [kn1_zero]; exact hT1
  case hh => rfl
  case hlL => exact (N2 _ (.head _)).2.1
  case hlN => 
    rename (_ ∧ _ ∧ _ ∧ _) => hq1
    intro q hq
    simp only [List.mem_cons, List.not_mem_nil, or_false] at hq
    rcases hq with rfl | rfl | rfl | rfl
    · exact Nat.ne_of_lt hq1.1
    · exact Nat.ne_of_lt hq1.2.1
    · exact Nat.ne_of_lt hq1.2.2.1
    · exact Nat.ne_of_lt hq1.2.2.2
  case hN => exact fun p hp => N2 p (.tail _ hp)
  case hm => exact mpo2_start (by rfl) (by rfl)
  case turn =>
    rintro i ⟨o, nm, st⟩ v h tk own hv hoff hc hadr F N
    (try dsimp only [mpo2] at F)
    dsimp only at N hc
    simp only [List.cons_append, List.nil_append] at N
    k_fold
    have hlt : i < 14 := by
      have := (Array.getElem?_eq_some_iff.mp hv).1
      have e := hN.length
      simp only [List.size_toArray] at this
      simp only [List.length_cons, List.length_nil] at e
      omega
    obtain ⟨tv, rfl⟩ := ints_at hN (by simpa using hv)
    have hz : (kn1 i).length ≤ 1000 := kn1_len i hlt
    clear hadr hv
    obtain ⟨n, hn, hn1, hn15, hk1⟩ := nums_at hlt
    rw [hn] at F
    have hnl := name1_len hn15
    have hdl := dec_len hn15
    k_steps
    unfold Stop
    refine my_joinT (name1 n) ?ev ?go
    case ev =>
      with_reducible refine IfExp_ ?_
      have : n = 1 ∨ n = 9 ∨ n = 11 ∨ (n ≠ 1 ∧ n ≠ 9 ∧ n ≠ 11) := by omega
      rcases this with rfl | rfl | rfl | hne
      · k_steps
        exact ⟨_, _, rfl, rfl⟩
      · k_steps
        exact ⟨_, _, rfl, rfl⟩
      · k_steps
        exact ⟨_, _, rfl, rfl⟩
      · k_steps
        refine ⟨_, _, congrArg (Value.str · _) ?_, rfl⟩
        unfold name1
        rw [if_neg hne.1, if_neg hne.2.1, if_neg hne.2.2]; rfl
    case go =>
      intro tt tk2
      k_steps
      rename Fr _ _ _ _ => F3
      rename News _ _ _ _ => N3
      rename TabObj _ _ _ => hT3
      have hl3 := News.isList N3 (.head _)
      rename (_ ∧ _ ∧ _ ∧ _ ∧ _) => hq1
      with_reducible refine my_listL (σ := Obj) (fun c => (lm, listOf vm.toArray 0) :: (ly, listOf vy.toArray 0) :: (a2, o2) :: (d, c) :: own) (fun M _ => M) (fun j' c => TabObj w c (stemT (kn1 i) (decS n) (name1 n) ([S "iso-8859-", S "iso8859-", S "iso8859"].take j'))) o ?hLe2 ?hh2 hl3 ?hlL2 ?hlN2 F3 ?hN2 ?hm2 ?hT2 ?turn2 ?done2
      case hLe2 => rfl
      case hh2 => rfl
      case hT2 => rw [stemT_zero]; exact hT3
      case hlL2 => exact (N3 _ (.head _)).2.1
      case hlN2 =>
        intro q hq
        simp only [List.mem_cons] at hq
        rcases hq with rfl | rfl | rfl | rfl | hq
        · exact Nat.ne_of_lt hq1.1
        · exact Nat.ne_of_lt hq1.2.1
        · exact Nat.ne_of_lt hq1.2.2.1
        · exact Nat.ne_of_lt hq1.2.2.2.1
        · exact Nat.ne_of_lt (alllt hq1.2.2.2.2 q hq)
      case hN2 => exact fun p hp => N3 p (.tail _ hp)
      case hm2 => exact fun z _ => rfl
      case turn2 =>
        rintro j o5 v5 h5 tk5 own5 hv5 hoff5 hc5 hadr5 F5 N5
        k_fold
        simp only [List.cons_append] at N5
        have hj : j < 3 := by
          have := (Array.getElem?_eq_some_iff.mp hv5).1
          simpa using this
        have hz5 : (stemT (kn1 i) (decS n) (name1 n) (List.take j [S "iso-8859-", S "iso8859-", S "iso8859"])).length ≤ 2000 := Nat.le_trans (stemT_len _ _ _ _) (by rw [List.length_take]; omega)
        obtain ⟨x5, t5, hx5, rfl⟩ : ∃ x5 t5, [S "iso-8859-", S "iso8859-", S "iso8859"][j]? = some x5 ∧ v5 = .str x5 t5 := by
          match j, hj with
          | 0, _ => simp at hv5; exact ⟨_, _, rfl, hv5.symm⟩
          | 1, _ => simp at hv5; exact ⟨_, _, rfl, hv5.symm⟩
          | 2, _ => simp at hv5; exact ⟨_, _, rfl, hv5.symm⟩
        have hx5l : x5.length ≤ 64 := stem_len hj hx5
        have hA : ∀ p ∈ own ++ own5, p.1 ≠ d := by
          intro p hp
          rcases List.mem_append.mp hp with hp | hp
          · exact hoff p hp d (by simp)
          · exact hoff5 p hp d (by simp)
        have k1 : lm ≠ d := Nat.ne_of_gt l1c.2.2
        have k2 : ly ≠ d := Nat.ne_of_gt l1b.2
        have k3 : a2 ≠ d := Nat.ne_of_gt l1a
        k_steps
        rename Fr _ _ _ _ => Fx
        rename News _ _ _ _ => Nx
        refine my_store Fx Nx (.tail k1 (.tail k2 (.tail k3 (.head hA)))) hc5 (by omega) ?_
        intro h6 o6 F6 N6 T6 hl6
        clear Fx Nx
        k_unmd
        k_steps
        (try dsimp only [MyPost])
        rename Fr _ _ _ _ => Fe
        rename News _ _ _ _ => Ne
        refine MyEnd.intro o6 Fe Ne (led4 _ _ _ _ _ _) (own4 _ _ _ _ _ _) rfl (fun z hz => if_neg hz) ?_
        rw [stemT_succ _ _ _ _ hx5]
        exact T6
      case done2 =>
        rintro o7 u7 h7 tk7 hc7 hadr7 F7 N7
        dsimp only
        have hA : ∀ p ∈ own, p.1 ≠ d := fun p hp => hoff p hp d (by simp)
        have k1 : lm ≠ d := Nat.ne_of_gt l1c.2.2
        have k2 : ly ≠ d := Nat.ne_of_gt l1b.2
        have k3 : a2 ≠ d := Nat.ne_of_gt l1a
        have hc8 : TabObj w o7 (stemT (kn1 i) (decS n) (name1 n) [S "iso-8859-", S "iso8859-", S "iso8859"]) := hc7
        clear hc7
        have hz7 : (stemT (kn1 i) (decS n) (name1 n) [S "iso-8859-", S "iso8859-", S "iso8859"]).length ≤ 2000 := Nat.le_trans (stemT_len _ _ _ _) (by simp only [List.length_cons, List.length_nil]; omega)
        k_unmd
        k_steps
        all_goals (try dsimp only [MyPost])
        rotate_left
        · rename Fr _ _ _ _ => Fe
          rename News _ _ _ _ => Ne
          rename TabObj _ _ _ => Te
          refine MyEnd.intro (_, some _, _) Fe Ne (fun p hp => List.mem_append_left own hp) (fun p hp => List.mem_append_right [_, _, _, _] hp) rfl (mpo2_end (by decide)) ?_
          rw [hk1, step1_c (by assumption)]
          exact Te
        · obtain ⟨m, hm, hml, hm2, hme⟩ := marks_at (n := n) (by assumption)
          rw [hm]
          k_unmd
          k_steps
          all_goals (try dsimp only [MyPost])
          rotate_left
          · rename Fr _ _ _ _ => Fe
            rename News _ _ _ _ => Ne
            rename TabObj _ _ _ => Te
            refine MyEnd.intro (_, some _, _) Fe Ne (fun p hp => List.mem_append_left own hp) (fun p hp => List.mem_append_right [_, _, _, _] hp) rfl (mpo2_end (by decide)) ?_
            rw [hk1, step1_b (by assumption) (by assumption) hme]
            exact Te
          · obtain ⟨y, hy, hyl, hy2, hye⟩ := years_at (n := n) (by assumption)
            rw [hy]
            k_unmd
            k_steps
            (try dsimp only [MyPost])
            rename Fr _ _ _ _ => Fe
            rename News _ _ _ _ => Ne
            rename TabObj _ _ _ => Te
            refine MyEnd.intro (_, some _, _) Fe Ne (fun p hp => List.mem_append_left own hp) (fun p hp => List.mem_append_right [_, _, _, _] hp) rfl (mpo2_end (by decide)) ?_
            rw [hk1, step1_a (by assumption) (by assumption) hme hye]
            exact Te
  case done =>
    rintro ⟨o, nm, st⟩ u h tk hc hadr F N
    (try dsimp only [mpo2] at F)
    dsimp only at N hc ⊢
    have hL14 : vs9.toArray.size = 14 := by
      rw [List.size_toArray]; exact hN.length
    rw [hL14] at hc
    clear hadr
    k_unmd
    k_steps
    rename Fr _ _ _ _ => F3
    rename News _ _ _ _ => N3
    unfold Stop
    with_reducible refine For_invVF F3 ?hx3 ?hp3 ?h3 ?hs3 ?hE3
    case hx3 => rfl
    case hp3 => rfl
    case hs3 => intro _; rfl
    case hE3 => passes_own
    k_steps
    unfold Stop
    rename Fr _ _ _ _ => F4
    rename News _ _ _ _ => N4
    rename IsRange _ _ _ _ _ _ _ _ => hr4
    with_reducible refine my_rangeL (σ := Obj × Option Value × Option Value) (n := 6) (fun c => [(lm, listOf vm.toArray 0), (ly, listOf vy.toArray 0), (a2, o2), (d, c.1)]) (mpo2 (PySem.Str.ofString "number") (PySem.Str.ofString "stem")) (fun i c => TabObj w c.1 (kn2 i)) (o, u, st) ?hLe4 ?hh4 hr4 ?hsm4 ?hn4 F4 ?hN4 ?hm4 ?hT4 ?turn4 ?done4
    case hLe4 => rfl
    case hh4 => rfl
    case hsm4 => decide
    case hn4 => decide
    case hN4 => exact N4
    case hm4 => exact mpo2_start (by rfl) (by rfl)
    case hT4 => rw [kn2_zero]; exact hc
    case turn4 =>
      rintro i ⟨o5, nb5, st5⟩ t5 h5 tk5 own5 hi5 hoff5 hc5 hadr5 F5 N5
      (try dsimp only [mpo2] at F5)
      dsimp only at N5 hc5
      simp only [List.cons_append, List.nil_append] at N5
      k_fold
      have e5 : (1 : Int) + ((i : Nat) : Int) = ((i + 1 : Nat) : Int) := by omega
      rw [e5] at F5
      obtain ⟨q, hq, hq15, hk2, hlat⟩ := lat_at hi5
      have hql := dec_len hq15
      have hqn := name1_len hq15
      have hil := dec_len (n := i + 1) (by omega)
      k_unmd
      k_steps
      rename Fr _ _ _ _ => F6
      rename News _ _ _ _ => N6
      rw [hq] at F6
      have hl6 := News.isList N6 (.head _)
      rename (_ ∧ _ ∧ _ ∧ _ ∧ _ ∧ _) => hq6
      have N7 := News.sub2 N6
      with_reducible refine my_listL (σ := Obj) (fun c => (lm, listOf vm.toArray 0) :: (ly, listOf vy.toArray 0) :: (a2, o2) :: (d, c) :: own5) (fun M _ => M) (fun j' c => TabObj w c (stemT (kn2 i) (decS (i + 1)) (name1 q) ([S "csisolatin", S "latin", S "l"].take j'))) o5 ?hLe6 ?hh6 hl6 ?hlL6 ?hlN6 F6 ?hN6 ?hm6 ?hT6 ?turn6 ?done6
      case hLe6 => rfl
      case hh6 => rfl
      case hT6 => rw [stemT_zero]; exact hc5
      case hlL6 => exact (N6 _ (.head _)).2.1
      case hlN6 =>
        intro q hq
        simp only [List.mem_cons] at hq
        rcases hq with rfl | rfl | rfl | rfl | hq
        · exact Nat.ne_of_lt hq6.2.1
        · exact Nat.ne_of_lt hq6.2.2.1
        · exact Nat.ne_of_lt hq6.2.2.2.1
        · exact Nat.ne_of_lt hq6.2.2.2.2.1
        · exact Nat.ne_of_lt (alllt hq6.2.2.2.2.2 q hq)
      case hN6 => exact N7
      case hm6 => exact fun z _ => rfl
      case turn6 =>
        rintro j o7 v7 h7 tk7 own7 hv7 hoff7 hc7 hadr7 F7 N8
        k_fold
        simp only [List.cons_append] at N8
        have hj : j < 3 := by
          have := (Array.getElem?_eq_some_iff.mp hv7).1
          simpa using this
        have hz7 : (stemT (kn2 i) (decS (i + 1)) (name1 q) (List.take j [S "csisolatin", S "latin", S "l"])).length ≤ 2000 := stem_bound (kn2_len i (by omega)) (by rw [List.length_take]; exact Nat.min_le_right _ _)
        have hlk := hlat j hj
        obtain ⟨x7, t7, hx7, rfl⟩ : ∃ x7 t7, [S "csisolatin", S "latin", S "l"][j]? = some x7 ∧ v7 = .str x7 t7 := by
          match j, hj with
          | 0, _ => simp at hv7; exact ⟨_, _, rfl, hv7.symm⟩
          | 1, _ => simp at hv7; exact ⟨_, _, rfl, hv7.symm⟩
          | 2, _ => simp at hv7; exact ⟨_, _, rfl, hv7.symm⟩
        have hx7l : x7.length ≤ 64 := stem_len2 hj hx7
        k_unmd
        k_steps
        rename News _ _ _ _ => Ny
        refine my_item Ny (.tail _ (.tail _ (.tail _ (.head _)))) hc7 lo1 hlk ?_
        intro t8

        have hA : ∀ p ∈ own5 ++ own7, p.1 ≠ d := by
          intro p hp
          rcases List.mem_append.mp hp with hp | hp
          · exact hoff5 p hp d (by simp)
          · exact hoff7 p hp d (by simp)
        have k1 : lm ≠ d := Nat.ne_of_gt l1c.2.2
        have k2 : ly ≠ d := Nat.ne_of_gt l1b.2
        have k3 : a2 ≠ d := Nat.ne_of_gt l1a
        k_unmd
        k_steps
        rename Fr _ _ _ _ => Fx
        rename News _ _ _ _ => Nx
        refine my_store Fx Nx (.tail k1 (.tail k2 (.tail k3 (.head hA)))) hc7 (by omega) ?_
        intro h9 o9 F9 N9 T9 hl9
        clear Fx Nx
        k_unmd
        k_steps
        (try dsimp only [MyPost])
        rename Fr _ _ _ _ => Fe
        rename News _ _ _ _ => Ne
        refine MyEnd.intro o9 Fe Ne (led4 _ _ _ _ _ _) (own4 _ _ _ _ _ _) rfl (fun z hz => if_neg hz) ?_
        rw [stemT_succ _ _ _ _ hx7]
        exact T9
      case done6 =>
        rintro o9 u9 h9 tk9 hc9 hadr9 F9 N9
        dsimp only
        k_unmd
        k_steps
        (try dsimp only [MyPost])
        rename Fr _ _ _ _ => Fe
        rename News _ _ _ _ => Ne
        refine MyEnd.intro (o9, some _, u9) Fe Ne (fun p hp => List.mem_append_left own5 hp) (fun p hp => List.mem_append_right [_, _, _, _] hp) rfl (mpo2_end (by decide)) ?_
        have hc10 : TabObj w o9 (stemT (kn2 i) (decS (i + 1)) (name1 q) [S "csisolatin", S "latin", S "l"]) := hc9
        rw [hk2]
        exact hc10
    case done4 =>
      rintro ⟨o5, nb5, st5⟩ u5 h5 tk5 hc5 hadr5 F5 N5
      (try dsimp only [mpo2] at F5)
      dsimp only at N5 hc5 ⊢
      clear hadr5
      k_unmd
      k_steps
      rename Fr _ _ _ _ => F3
      unfold Stop
      with_reducible refine For_invVF F3 ?hx8 ?hp8 ?h8 ?hs8 ?hE8
      case hx8 => rfl
      case hp8 => rfl
      case hs8 => intro _; rfl
      case hE8 => passes_own
      k_steps
      unfold Stop
      rename Fr _ _ _ _ => F8
      rename News _ _ _ _ => N8
      rename IsRange _ _ _ _ _ _ _ _ => hr8
      with_reducible refine my_rangeL (σ := Obj × Option Value) (n := 9) (fun c => [(lm, listOf vm.toArray 0), (ly, listOf vy.toArray 0), (a2, o2), (d, c.1)]) (mpo1 (PySem.Str.ofString "stem")) (fun i c => TabObj w c.1 (kn3 i)) (o5, st5) ?hLe8 ?hh8 hr8 ?hsm8 ?hn8 F8 ?hN8 ?hm8 ?hT8 ?turn8 ?done8
      case hLe8 => rfl
      case hh8 => rfl
      case hsm8 => decide
      case hn8 => decide
      case hN8 => exact N8
      case hm8 => exact mpo1_start (by rfl)
      case hT8 => rw [kn3_zero]; exact hc5
      case turn8 =>
        rintro i ⟨o5, st5⟩ t5 h5 tk5 own5 hi5 hoff5 hc5 hadr5 F5 N5
        (try dsimp only [mpo1] at F5)
        dsimp only at N5 hc5
        simp only [List.cons_append, List.nil_append] at N5
        k_fold
        have e5 : (0 : Int) + ((i : Nat) : Int) = ((i : Nat) : Int) := by omega
        rw [e5] at F5
        have hil := dec_len (n := i) (by omega)
        k_unmd
        k_steps
        rename Fr _ _ _ _ => F6
        rename News _ _ _ _ => N6
        have hl6 := News.isList N6 (.head _)
        rename (_ ∧ _ ∧ _ ∧ _ ∧ _) => hq6
        with_reducible refine my_listL (σ := Obj) (fun c => (lm, listOf vm.toArray 0) :: (ly, listOf vy.toArray 0) :: (a2, o2) :: (d, c) :: own5) (fun M _ => M) (fun j' c => TabObj w c (stemT (kn3 i) (decS i) (S "windows-125" ++ decS i) ([S "cp125", S "windows-125", S "x-cp125"].take j'))) o5 ?hLe6 ?hh6 hl6 ?hlL6 ?hlN6 F6 ?hN6 ?hm6 ?hT6 ?turn6 ?done6
        case hLe6 => rfl
        case hh6 => rfl
        case hT6 => rw [stemT_zero]; exact hc5
        case hlL6 => exact (N6 _ (.head _)).2.1
        case hlN6 =>
          intro q hq
          simp only [List.mem_cons] at hq
          rcases hq with rfl | rfl | rfl | rfl | hq
          · exact Nat.ne_of_lt hq6.1
          · exact Nat.ne_of_lt hq6.2.1
          · exact Nat.ne_of_lt hq6.2.2.1
          · exact Nat.ne_of_lt hq6.2.2.2.1
          · exact Nat.ne_of_lt (alllt hq6.2.2.2.2 q hq)
        case hN6 => exact fun p hp => N6 p (.tail _ hp)
        case hm6 => exact fun z _ => rfl
        case turn6 =>
          rintro j o7 v7 h7 tk7 own7 hv7 hoff7 hc7 hadr7 F7 N8
          k_fold
          simp only [List.cons_append] at N8
          have hj : j < 3 := by
            have := (Array.getElem?_eq_some_iff.mp hv7).1
            simpa using this
          have hz7 : (stemT (kn3 i) (decS i) (S "windows-125" ++ decS i) (List.take j [S "cp125", S "windows-125", S "x-cp125"])).length ≤ 2000 := stem_bound (kn3_len i (by omega)) (by rw [List.length_take]; exact Nat.min_le_right _ _)
          obtain ⟨x7, t7, hx7, rfl⟩ : ∃ x7 t7, [S "cp125", S "windows-125", S "x-cp125"][j]? = some x7 ∧ v7 = .str x7 t7 := by
            match j, hj with
            | 0, _ => simp at hv7; exact ⟨_, _, rfl, hv7.symm⟩
            | 1, _ => simp at hv7; exact ⟨_, _, rfl, hv7.symm⟩
            | 2, _ => simp at hv7; exact ⟨_, _, rfl, hv7.symm⟩
          have hx7l : x7.length ≤ 64 := stem_len3 hj hx7
          have hA : ∀ p ∈ own5 ++ own7, p.1 ≠ d := by
            intro p hp
            rcases List.mem_append.mp hp with hp | hp
            · exact hoff5 p hp d (by simp)
            · exact hoff7 p hp d (by simp)
          have k1 : lm ≠ d := Nat.ne_of_gt l1c.2.2
          have k2 : ly ≠ d := Nat.ne_of_gt l1b.2
          have k3 : a2 ≠ d := Nat.ne_of_gt l1a
          k_unmd
          k_steps
          rename Fr _ _ _ _ => Fx
          rename News _ _ _ _ => Nx
          refine my_store Fx Nx (.tail k1 (.tail k2 (.tail k3 (.head hA)))) hc7 (by omega) ?_
          intro h9 o9 F9 N9 T9 hl9
          clear Fx Nx
          k_unmd
          k_steps
          (try dsimp only [MyPost])
          rename Fr _ _ _ _ => Fe
          rename News _ _ _ _ => Ne
          refine MyEnd.intro o9 Fe Ne (led4 _ _ _ _ _ _) (own4 _ _ _ _ _ _) rfl (fun z hz => if_neg hz) ?_
          rw [stemT_succ _ _ _ _ hx7]
          exact T9
        case done6 =>
          rintro o9 u9 h9 tk9 hc9 hadr9 F9 N9
          dsimp only
          k_unmd
          k_steps
          (try dsimp only [MyPost])
          rename Fr _ _ _ _ => Fe
          rename News _ _ _ _ => Ne
          refine MyEnd.intro (o9, u9) Fe Ne (fun p hp => List.mem_append_left own5 hp) (fun p hp => List.mem_append_right [_, _, _, _] hp) rfl mpo1_end ?_
          have hc10 : TabObj w o9 (stemT (kn3 i) (decS i) (S "windows-125" ++ decS i) [S "cp125", S "windows-125", S "x-cp125"]) := hc9
          rw [kn3_succ]
          exact hc10
      case done8 =>
        rintro ⟨o5, st5⟩ u5 h5 tk5 hc5 hadr5 F5 N5
        (try dsimp only [mpo1] at F5)
        dsimp only at N5 hc5 ⊢
        clear hadr5
        k_unmd
        k_steps
        rename Fr _ _ _ _ => F3
        unfold Stop
        with_reducible refine For_invVF F3 ?hx9 ?hp9 ?h9 ?hs9 ?hE9
        case hx9 => rfl
        case hp9 => rfl
        case hs9 => intro _; rfl
        case hE9 => passes_own
        k_steps
        unfold Stop
        rename Fr _ _ _ _ => F8
        rename News _ _ _ _ => N8
        rename StrsAre _ restL => hS
        rename List Value => ws9
        have hl8 := News.isList N8 (.head _)
        with_reducible refine my_listL (σ := Obj × Option Value × Option Value) (fun c => [(lm, listOf vm.toArray 0), (ly, listOf vy.toArray 0), (a2, o2), (d, c.1)]) (mpo2 (PySem.Str.ofString "words") (PySem.Str.ofString "word")) (fun i c => TabObj w c.1 (kn4 i)) (o5, none, none) ?hLe10 ?hh10 hl8 ?hlL10 ?hlN10 F8 ?hN10 ?hm10 ?hT10 ?turn10 ?done10
        case hLe10 => rfl
        case hh10 => rfl
        case hlL10 => exact (N8 _ (.head _)).2.1
        case hlN10 => (dsimp only; assumption)
        case hN10 => exact fun p hp => N8 p (.tail _ hp)
        case hm10 => exact mpo2_start (by rfl) (by rfl)
        case hT10 => rw [kn4_zero]; exact hc5
        case turn10 =>
          rintro i ⟨o6, wd6, wo6⟩ v6 h6 tk6 own6 hv6 hoff6 hc6 hadr6 F6 N6
          (try dsimp only [mpo2] at F6)
          dsimp only at N6 hc6
          simp only [List.cons_append, List.nil_append] at N6
          k_fold
          have hlt : i < restL.length := by
            rw [← hS.len_eq]
            have := (Array.getElem?_eq_some_iff.mp hv6).1
            simpa using this
          obtain ⟨row, hrow⟩ : ∃ row, restL[i]? = some row := ⟨restL[i], by simp [hlt]⟩
          obtain ⟨tr, hr⟩ := hS.at hrow
          have hv' := hv6
          simp only [List.getElem?_toArray] at hv'
          rw [hr] at hv'
          cases hv'
          have hrl := rest_short _ (List.mem_of_getElem? hrow)
          have hrl2 : row.length ≤ 1000000 := by omega
          rw [rest_len] at hlt
          have hkl := kn4_len i (by omega)
          k_unmd
          k_steps
          rename Fr _ _ _ _ => F11
          unfold Stop
          with_reducible refine For_invVF F11 ?hx11 ?hp11 ?h11 ?hs11 ?hE11
          case hx11 => rfl
          case hp11 => rfl
          case hs11 => intro _; rfl
          case hE11 => passes_own
          k_steps
          rename Fr _ _ _ _ => F12
          rename News _ _ _ _ => N12
          rename StrsAre _ _ => hS12
          rename (Txt.split _ _ = _) => hsp
          rename (_ ∧ _ ∧ _ ∧ _ ∧ _ ∧ _) => hq12
          have hl12 := News.isList N12 (.head _)
          have hlen := split_len hsp
          rename List Value => r12
          rename List Str => ls12
          rename Str => n12
          rename Addr => D12
          have t9 := trivial
          have D9 := trivial
          have tk9 := trivial
          have hl9 := trivial
          have l9 := trivial
          have h9 := trivial
          rename_i t9z D9z h9a tk9a hl9a l9a h9b h9c
          clear t9 D9 tk9 hl9 l9 h9
          have N13 : News g L h9c ((D9z, listOf (Value.str n12 t9z :: r12).toArray 0) :: (lm, listOf vm.toArray 0) :: (ly, listOf vy.toArray 0) :: (a2, o2) :: (d, o6) :: own6) := fun p hp => N12 p (.tail _ hp)
          with_reducible refine my_listL (σ := Obj) (fun c => (D9z, listOf (Value.str n12 t9z :: r12).toArray 0) :: (lm, listOf vm.toArray 0) :: (ly, listOf vy.toArray 0) :: (a2, o2) :: (d, c) :: own6) (fun M _ => M) (fun j c => TabObj w c (rowT (kn4 i) n12 (ls12.take j))) o6 ?hLe12 ?hh12 hl12 ?hlL12 ?hlN12 F12 ?hN12 ?hm12 ?hT12 ?turn12 ?done12
          case hLe12 => rfl
          case hh12 => rfl
          case hT12 => rw [rowT_zero]; exact hc6
          case hlL12 => exact (N12 _ (.head _)).2.1
          case hlN12 =>
            intro q hq
            simp only [List.mem_cons] at hq
            rcases hq with rfl | rfl | rfl | rfl | rfl | hq
            · exact Nat.ne_of_lt hq12.1
            · exact Nat.ne_of_lt hq12.2.1
            · exact Nat.ne_of_lt hq12.2.2.1
            · exact Nat.ne_of_lt hq12.2.2.2.1
            · exact Nat.ne_of_lt hq12.2.2.2.2.1
            · exact Nat.ne_of_lt (alllt hq12.2.2.2.2.2 q hq)
          case hN12 => exact N13
          case hm12 => exact fun z _ => rfl
          case turn12 =>
            rintro j o7 v7 h7 tk7 own7 hv7 hoff7 hc7 hadr7 F7 N7
            k_fold
            simp only [List.cons_append] at N7
            have hj : j < ls12.length := by
              have := (Array.getElem?_eq_some_iff.mp hv7).1
              rw [List.size_toArray, hS12.len_eq] at this
              exact this
            obtain ⟨x7, hx7⟩ : ∃ x7, ls12[j]? = some x7 := ⟨ls12[j], by simp [hj]⟩
            obtain ⟨t7, ht7⟩ := hS12.at hx7
            simp only [List.getElem?_toArray] at hv7
            rw [ht7] at hv7
            cases hv7
            have hz7 : (rowT (kn4 i) n12 (ls12.take j)).length ≤ 10000 := Nat.le_trans (rowT_len _ _ _) (by rw [List.length_take]; omega)
            have hA : ∀ p ∈ own6 ++ own7, p.1 ≠ d := by
              intro p hp
              rcases List.mem_append.mp hp with hp | hp
              · exact hoff6 p hp d (by simp)
              · exact hoff7 p hp d (by simp)
            have k0 : D9z ≠ d := Nat.ne_of_gt l9a.2.2.2.1
            have k1 : lm ≠ d := Nat.ne_of_gt l1c.2.2
            have k2 : ly ≠ d := Nat.ne_of_gt l1b.2
            have k3 : a2 ≠ d := Nat.ne_of_gt l1a
            k_unmd
            k_steps
            rename Fr _ _ _ _ => Fx
            rename News _ _ _ _ => Nx
            refine my_store Fx Nx (.tail k0 (.tail k1 (.tail k2 (.tail k3 (.head hA))))) hc7 (by omega) ?_
            intro h9 o9 F9 N9 T9 hl9
            clear Fx Nx
            k_unmd
            k_steps
            (try dsimp only [MyPost])
            rename Fr _ _ _ _ => Fe
            rename News _ _ _ _ => Ne
            refine MyEnd.intro o9 Fe Ne (led5 _ _ _ _ _ _ _) (own5 _ _ _ _ _ _ _) rfl (fun z hz => if_neg hz) ?_
            rw [rowT_succ _ _ _ hx7]
            exact T9
          case done12 =>
            rintro o9 u9 h9 tk9 hc9 hadr9 F9 N9
            dsimp only
            rw [List.size_toArray, hS12.len_eq, List.take_length] at hc9
            k_unmd
            k_steps
            (try dsimp only [MyPost])
            rename Fr _ _ _ _ => Fe
            rename News _ _ _ _ => Ne
            refine MyEnd.intro (o9, some _, u9) Fe Ne (fun p hp => .tail _ (List.mem_append_left own6 hp)) (fun p hp => .tail _ (List.mem_append_right [_, _, _, _] hp)) rfl (mpo2_end (by decide)) ?_
            rw [kn4_succ hrow, rowS_eq hsp]
            exact hc9
        case done10 =>
          rintro ⟨o6, wd6, wo6⟩ u6 h6 tk6 hc6 hadr6 F6 N6
          (try dsimp only [mpo2] at F6)
          dsimp only at N6 hc6 ⊢
          have hL : ws9.toArray.size = 27 := by
            rw [List.size_toArray, hS.len_eq, rest_len]
          rw [hL] at hc6
          clear hadr6
          k_unmd
          k_steps
          ((try dsimp only [MyPost, WPost, XPost]); (try k_unfold); (try dsimp only [MyPost, WPost, XPost]); (try k_unfold); (try dsimp only [MyPost, WPost, XPost]); (try k_unfold); (try dsimp only); refine Done.intro (by assumption) ?_)
          rename News _ _ _ _ => Ne
          exact ⟨o6, d, rfl, (Ne _ (.tail _ (.tail _ (.tail _ (.head _))))).1, (Ne _ (.tail _ (.tail _ (.tail _ (.head _))))).2.2, hc6, lo1⟩
end Mine
end
section
open PySem PySem.W PyProof.Rows PySem.Calls PyProof.Rows.LCg
set_option maxRecDepth 100000
set_option maxHeartbeats 8000000
namespace Mine
theorem sectPd : True := by
  w_top off
  k_with_none
  trivial
abbrev csS : Str := PySem.Str.ofString "charset"
abbrev eqS : Str := PySem.Str.ofString "="
def hitB (x : Str) (k : Nat) : Bool := Txt.slice x (some (k : Int)) (some ((k : Int) + 7)) == csS
/-- the places of the word, below n -/
def placesL (x : Str) (n : Nat) : List Int := ((List.range n).filter (hitB x)).map fun (k : Nat) => (k : Int)
theorem places_yes {x : Str} {n : Nat} (h : hitB x n = true) : placesL x (n + 1) = placesL x n ++ [(n : Int)] := by
  unfold placesL
  rw [List.range_succ, List.filter_append, List.map_append]
  simp [h]
theorem places_no {x : Str} {n : Nat} (h : hitB x n = false) : placesL x (n + 1) = placesL x n := by
  unfold placesL
  rw [List.range_succ, List.filter_append, List.map_append]
  simp [h]
theorem q_pos {v : Str} (h : ([PySem.Str.ofString "\"", PySem.Str.ofString "'"].any fun x => x == Txt.slice v none (some 1)) = true) : 0 < v.length := by
  refine Nat.pos_of_ne_zero fun h0 => ?_
  have h1 := ((fact_slice_ns v 1).2 (by omega))
  have h2 : (Txt.slice v none (some 1)).length = 0 := by omega
  simp only [List.any_cons, List.any_nil, Bool.or_false, Bool.or_eq_true, beq_iff_eq] at h
  have l1 : (PySem.Str.ofString "\"").length = 1 := by decide +kernel
  have l2 : (PySem.Str.ofString "'").length = 1 := by decide +kernel
  rcases h with h | h
  · rw [← h, l1] at h2; cases h2
  · rw [← h, l2] at h2; cases h2
theorem IntsAre.get : ∀ {vs : List Value} {ns : List Int} {i : Nat} {v : Value}, IntsAre vs ns → vs[i]? = some v → ∃ p t, ns[i]? = some p ∧ v = .int p t
  | _, _, _, _, .nil, h => by simp at h
  | _, _, 0, _, .cons _ _ _, h => by cases h; exact ⟨_, _, rfl, rfl⟩
  | _, _, i + 1, _, .cons _ _ r, h => by simpa using IntsAre.get r (by simpa using h)
theorem places_mem {x : Str} {i : Nat} {p : Int} (h : (placesL x x.length)[i]? = some p) : ∃ k : Nat, p = (k : Int) ∧ k < x.length ∧ hitB x k = true := by
  have := List.mem_of_getElem? h
  unfold placesL at this
  obtain ⟨k, hk, rfl⟩ := List.mem_map.mp this
  have := List.mem_filter.mp hk
  exact ⟨k, rfl, List.mem_range.mp this.1, this.2⟩
section
variable {prog : Program} {w : World} {A : Around} {E : Value → Shared → Prop} {s : Shared} {h₀ : Heap} {L : Addr} {news : List (Addr × Obj)} {Q : Value → Shared → Prop}
theorem my_lenL {D : Addr} {v0 : Value} {r : List Value} {c : Nat} (N : News h₀ L s.heap ((D, listOf (v0 :: r).toArray c) :: news)) (hz : r.length ≤ 1000001) (h : Q (.int ((r.length : Int) + 1) (s.toks + 1)) { s with toks := s.toks + 1 + 1 }) :
    wpAny (model prog w) A (call (.builtin "len") [.ref D]) Q E s := by
  refine KM.len_K (n := r.length + 1) N (.head _) rfl (by omega) ?_
  exact h
theorem my_itemL0 {D : Addr} {v0 : Value} {r : List Value} {c : Nat} {u : Tok} {value slice : PySem.Expr} (N : News h₀ L s.heap ((D, listOf (v0 :: r).toArray c) :: news)) (h : Q v0 s)
    (hs : subscripted slice false (.ref D) (.int 0 u) = operate [.ref D, .int 0 u] (getItem (.ref D) (.int 0 u)) := by with_unfolding_all rfl) :
    wpAny (model prog w) A (subscriptTail value slice (.ref D) (.int 0 u)) Q E s :=
  tail_any (News.isList N (.head _)).typeIs slot_list_getitem.lookup (wpAny_getItem_list (News.isList N (.head _)) (Int.le_refl 0) (by decide) rfl h) hs
theorem my_newStrs {m : Str → Option Value} {vs : List Value} (F : Fr h₀ L s.heap m) (N : News h₀ L s.heap news) (hi : StrsAre vs (vs.map vStr)) (hz : vs.length ≤ 1000)
    (h : ∀ l h' vs', StrsAre vs' (vs.map vStr) → Fr h₀ L h' m → News h₀ L h' ((l, listOf vs'.toArray 0) :: news) → (∀ p ∈ news, p.1 < l) → Q (.ref l) { s with heap := h' }) : wpAny (model prog w) A (newList vs) Q E s :=
  newList_K F N (fun l h' F' N' l1 => h l h' vs hi F' N' l1) (by rw [sizeLine_eq]; omega)
end
def restS (y : Str) (k : Nat) : Str := Txt.lstripChars (Txt.slice y (some ((k : Int) + 7)) none) wsS
def eqB (y : Str) (k : Nat) : Bool := Txt.slice (restS y k) none (some 1) == eqS
def valS (y : Str) (k : Nat) : Str := Txt.lstripChars (Txt.slice (restS y k) (some 1) none) wsS
def headS (x s : Str) : Str := (Txt.split x s).headD x
abbrev stopsL : List Str := [PySem.Str.ofString "\t", PySem.Str.ofString "\n", PySem.Str.ofString "\x0c", PySem.Str.ofString "\r", PySem.Str.ofString " ", PySem.Str.ofString ";"]
def cutS (v : Str) (n : Nat) : Str := (stopsL.take n).foldl headS v
def partV (tb : List (Str × Str)) : List Str → Option Str
  | n :: _ :: _ => nameT tb n
  | _ => none
def toldV (tb : List (Str × Str)) (v : Str) : Option Str :=
  if ([PySem.Str.ofString "\"", PySem.Str.ofString "'"].any fun x => x == Txt.slice v none (some 1)) = true then partV tb (Txt.split (Txt.slice v (some 1) none) (Txt.item v 0)) else nameT tb (cutS v 6)
/-- none of the first i places has the sign of equality behind it -/
def noEq (y : Str) (i : Nat) : Prop := ∀ (j q : Nat), j < i → (placesL y y.length)[j]? = some (q : Int) → eqB y q = false
def LawC (tb : List (Str × Str)) (y : Str) (r : Option Str) : Prop :=
  (∃ (i p : Nat), (placesL y y.length)[i]? = some (p : Int) ∧ noEq y i ∧ eqB y p = true ∧ r = toldV tb (valS y p)) ∨ (noEq y (placesL y y.length).length ∧ r = none)
theorem noEq_zero (y : Str) : noEq y 0 := fun _ _ h => absurd h (Nat.not_lt_zero _)
theorem noEq_succ {y : Str} {i k : Nat} (h : noEq y i) (hk : (placesL y y.length)[i]? = some (k : Int)) (e : eqB y k = false) : noEq y (i + 1) := by
  intro j q hj hq
  by_cases hji : j < i
  · exact h j q hji hq
  · have : j = i := by omega
    subst this
    rw [hk] at hq
    have hq' : (k : Int) = (q : Int) := Option.some.inj hq
    have hq2 : k = q := by omega
    subst hq2; exact e
theorem cutS_zero (v : Str) : v = cutS v 0 := rfl
theorem cutS_succ {v s : Str} {n : Nat} (h : stopsL[n]? = some s) : cutS v (n + 1) = headS (cutS v n) s := by
  unfold cutS
  rw [List.take_add_one, h, List.foldl_append]; rfl
theorem split_head_len {x y n : Str} {ls : List Str} (h : Txt.split x y = n :: ls) : n.length ≤ x.length := by
  have h1 := StrLaws.join_split x y
  rw [h] at h1
  cases ls with
  | nil => have e : n = x := h1; rw [e]; exact Nat.le_refl _
  | cons m r =>
    have e : n ++ y ++ Str.join y (m :: r) = x := h1
    rw [← e, len_app, len_app]; omega
theorem headS_len (x s : Str) : (headS x s).length ≤ x.length := by
  unfold headS
  cases h : Txt.split x s with
  | nil => exact Nat.le_refl _
  | cons n ls => exact split_head_len h
theorem cutS_len (v : Str) (n : Nat) : (cutS v n).length ≤ v.length := by
  unfold cutS
  induction (stopsL.take n) generalizing v with
  | nil => exact Nat.le_refl _
  | cons a r ih => exact Nat.le_trans (ih _) (headS_len v a)
theorem cut_done {vs : List Value} {c v : Str} (h : StrsAre vs stopsL) (hc : c = cutS v vs.toArray.size) : c = cutS v 6 := by
  rw [List.size_toArray, h.len_eq] at hc; exact hc
theorem ints_len : ∀ {vs : List Value} {ns : List Int}, IntsAre vs ns → vs.length = ns.length
  | _, _, .nil => rfl
  | _, _, .cons _ _ r => by rw [List.length_cons, List.length_cons, ints_len r]
theorem noEq_done {ys : List Value} {y : Str} (h : IntsAre ys (placesL y y.length)) (hc : noEq y ys.toArray.size) : noEq y (placesL y y.length).length := by
  rw [List.size_toArray, ints_len h] at hc; exact hc
theorem headS_of {x s n : Str} {ls : List Str} (h : Txt.split x s = n :: ls) : headS x s = n := by
  unfold headS; rw [h]; rfl
theorem mpo_end {n x : Str} {M : Str → Option Value} {b b' v : Option Value} : ∀ z, z ≠ x → (if z = n then b else if z = x then v else mpo n M b' z) = mpo n M b z := fun z hz => by
  show _ = if z = n then b else M z
  by_cases e : z = n
  · rw [if_pos e, if_pos e]
  · rw [if_neg e, if_neg e, if_neg hz]
    show (if z = n then b' else M z) = M z
    rw [if_neg e]
theorem mp1_start {σ : Type} {x n : Str} {f : σ → Value} {M : Str → Option Value} {c : σ} (h : M n = some (f c)) : ∀ z, z ≠ x → M z = mp1 n f M c z := fun z _ => by
  show _ = if z = n then some (f c) else M z
  by_cases e : z = n
  · rw [if_pos e, e, h]
  · rw [if_neg e]
theorem mp1_end {σ : Type} {x n : Str} {f : σ → Value} {M : Str → Option Value} {c c' : σ} {v : Option Value} : ∀ z, z ≠ x → (if z = n then some (f c) else if z = x then v else mp1 n f M c' z) = mp1 n f M c z := fun z hz => by
  show _ = if z = n then some (f c) else M z
  by_cases e : z = n
  · rw [if_pos e, if_pos e]
  · rw [if_neg e, if_neg e, if_neg hz]
    show (if z = n then some (f c') else M z) = M z
    rw [if_neg e]
theorem allLt_ne {own : List (Addr × Obj)} {D a : Addr} {o : Obj} {l : Addr} (h1 : a < l) (h2 : D < l) (h3 : AllLt l own) {oD : Obj} : ∀ q ∈ (a, o) :: (D, oD) :: own, q.1 ≠ l := by
  intro q hq
  simp only [List.mem_cons] at hq
  rcases hq with rfl | rfl | hq
  · exact Nat.ne_of_lt h1
  · exact Nat.ne_of_lt h2
  · exact Nat.ne_of_lt (kst_ltOf h3 q hq)
theorem news_tail {h₀ h : Heap} {L : Addr} {p : Addr × Obj} {news : List (Addr × Obj)} (N : News h₀ L h (p :: news)) : News h₀ L h news := fun q hq => N q (.tail _ hq)
theorem news_hd {h₀ h : Heap} {L a : Addr} {o : Obj} {news : List (Addr × Obj)} (N : News h₀ L h ((a, o) :: news)) : a ≠ L := (N _ (.head _)).2.1
theorem StrsAre.at : ∀ {vs : List Value} {ns : List Str} {i : Nat} {v : Value}, StrsAre vs ns → vs[i]? = some v → ∃ p t, ns[i]? = some p ∧ v = .str p t
  | _, _, _, _, .nil, h => by simp at h
  | _, _, 0, _, .cons _ _ _, h => by cases h; exact ⟨_, _, rfl, rfl⟩
  | _, _, i + 1, _, .cons _ _ r, h => by simpa using StrsAre.at r (by simpa using h)
theorem stops_len {i : Nat} {s : Str} (h : stopsL[i]? = some s) : (s.length == 0) = false := by
  have a : (stopsL.all fun s => !(s.length == 0)) = true := by decide +kernel
  have := List.all_eq_true.mp a s (List.mem_of_getElem? h)
  simpa using this
theorem told_part {tb : List (Str × Str)} {v n : Str} {ls : List Str} {r : List Value} (hq : ([PySem.Str.ofString "\"", PySem.Str.ofString "'"].any fun x => x == Txt.slice v none (some 1)) = true) (e : Txt.split (Txt.slice v (some 1) none) (Txt.item v 0) = n :: ls) (hs : StrsAre r ls) (h : 0 < r.length) : toldV tb v = nameT tb n := by
  unfold toldV
  rw [if_pos hq, e]
  have h1 := hs.len_eq
  cases ls with
  | nil => rw [List.length_nil] at h1; omega
  | cons a b => rfl
theorem told_none {tb : List (Str × Str)} {v n : Str} {ls : List Str} {r : List Value} (hq : ([PySem.Str.ofString "\"", PySem.Str.ofString "'"].any fun x => x == Txt.slice v none (some 1)) = true) (e : Txt.split (Txt.slice v (some 1) none) (Txt.item v 0) = n :: ls) (hs : StrsAre r ls) (h : r.length = 0) : toldV tb v = none := by
  unfold toldV
  rw [if_pos hq, e]
  have h1 := hs.len_eq
  cases ls with
  | nil => rfl
  | cons a b => rw [List.length_cons] at h1; omega
theorem told_cut {tb : List (Str × Str)} {v : Str} (hq : ([PySem.Str.ofString "\"", PySem.Str.ofString "'"].any fun x => x == Txt.slice v none (some 1)) = false) : toldV tb v = nameT tb (cutS v 6) := by
  unfold toldV
  rw [if_neg (by rw [hq]; decide)]
theorem lawC_at {tb : List (Str × Str)} {y val : Str} {r : Option Str} {i k : Nat} (hp : (placesL y y.length)[i]? = some (k : Int)) (hc : noEq y i) (he : eqB y k = true) (hv : valS y k = val) (ht : toldV tb val = r) : LawC tb y r :=
  .inl ⟨i, k, hp, hc, he, by rw [hv, ht]⟩
end Mine
end
section
open PySem PySem.W PyProof.Rows PySem.Calls PyProof.Rows.LCg
set_option maxRecDepth 100000
set_option maxHeartbeats 8000000
namespace Mine
theorem sectPl : True := by
  w_top off
  k_with_none
  trivial
open Builtin Builtin.Str
abbrev ll (x : Str) : List Nat := x.cps.toList
theorem ll_mk (l : List Nat) : ll ⟨l.toArray⟩ = l := rfl
theorem len_ll (x : Str) : x.length = (ll x).length := rfl
theorem str_of_ll {x y : Str} (h : ll x = ll y) : x = y := PySem.Str.ext' (Array.toList_inj.mp h)
theorem ws_goes : (fun n => wsS.cps.contains n) = spN := by
  funext n
  have h : wsS = ⟨#[9, 10, 12, 13, 32]⟩ := by decide +kernel
  rw [h]
  show Array.contains #[9, 10, 12, 13, 32] n = _
  unfold spN
  rw [Bool.eq_iff_iff]; simp only [List.contains_toArray, List.contains_cons, List.contains_nil, Bool.or_eq_true, beq_iff_eq, Bool.false_eq_true, or_false, or_assoc]
theorem ws_goes' : wsS.cps.contains = spN := ws_goes
theorem slice_from (x : Str) (a : Nat) : ll (Txt.slice x (some (a : Int)) none) = (ll x).drop a := by
  have h : Txt.slice x (some (a : Int)) none = Txt.slice x (some (a : Int)) (some ((x.length : Nat) : Int)) := by
    show StrLaws.sliceText x _ none = StrLaws.sliceText x _ _
    unfold StrLaws.sliceText
    rw [StrLaws.sliceIdx_none_hi]
  rw [h, txt_slice]
  show ((ll x).drop a).take (x.length - a) = _
  rw [List.take_of_length_le]
  rw [List.length_drop]; exact Nat.le_refl _
theorem slice_to (x : Str) (b : Nat) : ll (Txt.slice x none (some (b : Int))) = (ll x).take b := by
  have h : Txt.slice x none (some (b : Int)) = Txt.slice x (some ((0 : Nat) : Int)) (some (b : Int)) := by
    show StrLaws.sliceText x none _ = StrLaws.sliceText x _ _
    unfold StrLaws.sliceText
    rw [StrLaws.sliceIdx_none_lo]; rfl
  rw [h, txt_slice]
  show ((ll x).drop 0).take (b - 0) = _
  rfl
theorem slice_to1 (x : Str) : ll (Txt.slice x none (some 1)) = (ll x).take 1 := by
  have := slice_to x 1
  rw [Int.natCast_one] at this; exact this
theorem slice_from1 (x : Str) : ll (Txt.slice x (some 1) none) = (ll x).drop 1 := by
  have := slice_from x 1
  rw [Int.natCast_one] at this; exact this
theorem drop_skip (p : Nat → Bool) (l : List Nat) : l.drop (l.takeWhile p).length = l.dropWhile p := by
  induction l with
  | nil => rfl
  | cons a r ih =>
    by_cases h : p a = true
    · rw [List.takeWhile_cons, if_pos h, List.dropWhile_cons, if_pos h]; simpa using ih
    · rw [List.takeWhile_cons, if_neg h, List.dropWhile_cons, if_neg h]; rfl
theorem drop_skipF (p : Nat → Bool) (l : List Nat) (i : Nat) : l.drop (skipF p l i) = (l.drop i).dropWhile p := by
  unfold skipF
  rw [← List.drop_drop, drop_skip]
theorem lstrip_list (x : Str) : ll (Txt.lstripChars x wsS) = (ll x).dropWhile spN := by
  unfold Txt.lstripChars
  rw [PyProof.Rows.stripBy_eq, ws_goes']
  show (strSub _ _ _).cps.toList = _
  rw [StrLaws.strSub_toList]
  simp only [stripLo, stripHi, if_true]
  rw [List.take_of_length_le, drop_skip]
  rw [List.length_drop]; exact Nat.le_refl _
theorem rev_drop (p : Nat → Bool) (l : List Nat) : l.take (l.length - (l.reverse.takeWhile p).length) = (l.reverse.dropWhile p).reverse := by
  rw [← drop_skip, List.drop_reverse, List.reverse_reverse]
theorem strip_list (x : Str) : ll (Txt.stripChars x wsS) = (((ll x).dropWhile spN).reverse.dropWhile spN).reverse := by
  unfold Txt.stripChars
  rw [PyProof.Rows.stripBy_eq, ws_goes']
  show (strSub _ _ _).cps.toList = _
  rw [StrLaws.strSub_toList]
  simp only [stripLo, stripHi, if_true]
  rw [drop_skip, ← rev_drop]
  congr 1
  rw [← drop_skip, List.length_drop]
  have h0 : x.length = (ll x).length := rfl
  rw [h0]
  exact Nat.sub_right_comm _ _ _
/-- the text that encoding_of seeks is the law's -/
theorem low_sp (n : Nat) : spN (lowN n) = spN n := by
  unfold lowN upN spN
  split
  · rename_i h
    simp at h
    rw [Bool.eq_iff_iff]; simp; omega
  · rfl
theorem map_dropWhile {α β : Type} (f : α → β) (p : β → Bool) (l : List α) : (l.map f).dropWhile p = (l.dropWhile (fun a => p (f a))).map f := by
  induction l with
  | nil => rfl
  | cons a r ih =>
    rw [List.map_cons, List.dropWhile_cons, List.dropWhile_cons]
    by_cases h : p (f a) = true
    · rw [if_pos h, if_pos h]; exact ih
    · rw [if_neg h, if_neg h]; rfl
theorem low_list (x : Str) : ll (lowT x) = (ll x).map lowN := by
  show (x.cps.map lowN).toList = _
  rw [Array.toList_map]
theorem cut_back (p : Nat → Bool) (l : List Nat) (b : Nat) : cutL l b (backF p l b l.length) = ((l.drop b).reverse.dropWhile p).reverse := by
  unfold cutL backF
  rw [List.take_length, Nat.add_sub_cancel_left, ← rev_drop]
  congr 1
  rw [← drop_skip, List.length_drop, List.length_reverse]
theorem wanted_eq (x : Str) : Txt.stripChars (lowT x) wsS = wantedE x := by
  apply str_of_ll
  have e : (fun a => spN (lowN a)) = spN := funext low_sp
  rw [strip_list, low_list, map_dropWhile, e, ← List.map_reverse, map_dropWhile, e, ← List.map_reverse]
  unfold wantedE
  rw [low_list]
  congr 1
  rw [ll_mk, len_ll, cut_back, drop_skipF, List.drop_zero]
theorem cut_skip (p : Nat → Bool) (l : List Nat) (a : Nat) : cutL l a (skipF p l a) = (l.drop a).takeWhile p := by
  unfold cutL skipF
  rw [Nat.add_sub_cancel_left]
  induction (l.drop a) with
  | nil => rfl
  | cons b r ih =>
    rw [List.takeWhile_cons]
    by_cases h : p b = true
    · rw [if_pos h]; simpa using ih
    · rw [if_neg h]; rfl
theorem take_ne {c : Nat} {l r : List Nat} (h : c ∉ l) : (l ++ c :: r).takeWhile (· != c) = l := by
  rw [List.takeWhile_append_of_pos]
  · simp
  · intro a ha
    simp only [bne_iff_ne, ne_eq]
    intro e; subst e; exact h ha
theorem take_all {c : Nat} {l : List Nat} (h : c ∉ l) : l.takeWhile (· != c) = l := by
  have := take_ne (r := []) h
  induction l with
  | nil => rfl
  | cons a r ih =>
    rw [List.mem_cons, not_or] at h
    rw [List.takeWhile_cons, if_pos (by simpa using Ne.symm h.1), ih h.2 (take_ne h.2)]
theorem split_one (x : Str) (c : Nat) : (c ∉ ll x ∧ Txt.split x ⟨#[c]⟩ = [x]) ∨ (∃ n m r, Txt.split x ⟨#[c]⟩ = n :: m :: r ∧ ll n = (ll x).takeWhile (· != c) ∧ c ∈ ll x) := by
  have h1 := StrLaws.join_split x ⟨#[c]⟩
  have h2 := StrLaws.split_free x c
  have h3 := (fact_split x ⟨#[c]⟩).1
  generalize Txt.split x ⟨#[c]⟩ = spl at h1 h2 h3 ⊢
  cases spl with
  | nil => simp at h3
  | cons n r =>
    have hn := h2 n (.head _)
    cases r with
    | nil =>
      have e : n = x := h1
      subst e
      exact .inl ⟨hn, rfl⟩
    | cons m r =>
      right
      refine ⟨n, m, r, ?_⟩
      constructor
      · exact rfl
      constructor
      · rw [← h1]
        show _ = ((n ++ (⟨#[c]⟩ : Str) ++ Str.join _ (m :: r)).cps.toList).takeWhile _
        simp only [PySem.Str.cps_append, Array.toList_append, List.append_assoc]
        exact (take_ne hn).symm
      · rw [← h1]
        show c ∈ ((n ++ (⟨#[c]⟩ : Str) ++ Str.join _ (m :: r)).cps.toList)
        simp [PySem.Str.cps_append]
theorem head_one (x : Str) (c : Nat) : ll (headS x ⟨#[c]⟩) = (ll x).takeWhile (· != c) := by
  unfold headS
  rcases split_one x c with ⟨h, e⟩ | ⟨n, m, r, e, h, _⟩
  · rw [e]; exact (take_all h).symm
  · rw [e]; exact h
theorem tw_tw {α : Type} (p q : α → Bool) (l : List α) : (l.takeWhile p).takeWhile q = l.takeWhile (fun a => p a && q a) := by
  induction l with
  | nil => rfl
  | cons a r ih =>
    by_cases hp : p a = true <;> by_cases hq : q a = true <;> simp [List.takeWhile_cons, hp, hq, ih]
theorem stops_ll : stopsL = [⟨#[9]⟩, ⟨#[10]⟩, ⟨#[12]⟩, ⟨#[13]⟩, ⟨#[32]⟩, ⟨#[59]⟩] := by decide +kernel
theorem cut_list (v : Str) : ll (cutS v 6) = (ll v).takeWhile (fun n => n != 59 && !spN n) := by
  unfold cutS
  rw [stops_ll]
  simp only [List.take, List.foldl]
  rw [head_one, head_one, head_one, head_one, head_one, head_one, tw_tw, tw_tw, tw_tw, tw_tw, tw_tw]
  congr 1
  funext n
  unfold spN
  rw [Bool.eq_iff_iff]; simp; omega
theorem rest_list (y : Str) (k : Nat) : ll (restS y k) = (ll y).drop (skipF spN (ll y) (k + 7)) := by
  unfold restS
  have e : ((k : Int) + 7) = ((k + 7 : Nat) : Int) := by omega
  rw [lstrip_list, e, slice_from, drop_skipF]
theorem eqS_ll : eqS = ⟨#[61]⟩ := by decide +kernel
theorem eqB_iff (y : Str) (k : Nat) : eqB y k = true ↔ (ll y)[skipF spN (ll y) (k + 7)]? = some 61 := by
  unfold eqB
  rw [beq_iff_eq, eqS_ll]
  have e : Txt.slice (restS y k) none (some 1) = ⟨#[61]⟩ ↔ ll (Txt.slice (restS y k) none (some 1)) = [61] :=
    ⟨fun h => by rw [h], fun h => by apply str_of_ll; rw [h]⟩
  rw [e, slice_to1, rest_list]
  generalize skipF spN (ll y) (k + 7) = b
  rw [← beq_iff_eq]
  exact StrLaws.take1_drop
theorem val_list (y : Str) (k : Nat) : ll (valS y k) = (ll y).drop (skipF spN (ll y) (skipF spN (ll y) (k + 7) + 1)) := by
  unfold valS
  rw [lstrip_list, slice_from1, rest_list, List.drop_drop, drop_skipF]
end Mine
end
section
open PySem PySem.W PyProof.Rows PySem.Calls PyProof.Rows.LCg
set_option maxRecDepth 100000
set_option maxHeartbeats 8000000
namespace Mine
theorem sectP1 : True := by
  w_top off
  k_with_none
  trivial
def rowPairs (row : Str) : List (Str × Str) :=
  match Txt.split row (PySem.Str.ofString " ") with
  | [] => []
  | n :: ls => ls.map fun l => (l, n)
def rowsTab : List (Str × Str) := rowsL.flatMap rowPairs
theorem look_app (a b : List (Str × Str)) (w : Str) : lookT (a ++ b) w = (lookT a w).or (lookT b w) := by
  unfold lookT
  rw [List.find?_append]
  cases h : a.find? (fun p => p.1 == w) <;> simp
theorem look_row (n w : Str) : ∀ ls : List Str, lookT (ls.map fun l => (l, n)) w = if (ls.any (· == w)) = true then some n else none
  | [] => rfl
  | a :: r => by
    unfold lookT
    rw [List.map_cons, List.find?_cons, List.any_cons]
    by_cases h : (a == w) = true
    · simp [h]
    · have h' : (a == w) = false := by simpa using h
      simp only [h', Bool.false_or]
      have := look_row n w r
      unfold lookT at this
      exact this
theorem enc_row (w row : Str) : encR w row = lookT (rowPairs row) w := by
  unfold encR rowPairs
  cases Txt.split row (PySem.Str.ofString " ") with
  | nil => rfl
  | cons n ls => rw [look_row]
theorem enc_rows (w : Str) : ∀ rows : List Str, rows.findSome? (encR w) = lookT (rows.flatMap rowPairs) w
  | [] => rfl
  | a :: r => by
    rw [List.findSome?_cons, List.flatMap_cons, look_app, enc_row, enc_rows w r]
    cases lookT (rowPairs a) w <;> rfl
theorem look_some {tb : List (Str × Str)} {w v : Str} (h : lookT tb w = some v) : ∃ p ∈ tb, p.1 = w ∧ p.2 = v := by
  unfold lookT at h
  cases hf : tb.find? (fun p => p.1 == w) with
  | none => rw [hf] at h; cases h
  | some p =>
    rw [hf] at h
    exact ⟨p, List.mem_of_find?_eq_some hf, by simpa using List.find?_some hf, by simpa using h⟩
theorem look_none {tb : List (Str × Str)} {w : Str} (h : lookT tb w = none) : ∀ p ∈ tb, p.1 ≠ w := by
  intro p hp e
  unfold lookT at h
  have h' : tb.find? (fun p => p.1 == w) = none := by
    cases hf : tb.find? (fun p => p.1 == w) with
    | none => rfl
    | some p => rw [hf] at h; cases h
  have := List.find?_eq_none.mp h' p hp
  rw [e] at this; simp at this
theorem tabs_same (hA : ∀ p ∈ knownT, lookT rowsTab p.1 = some p.2) (hC : ∀ p ∈ rowsTab, ∃ q ∈ knownT, q.1 = p.1) (w : Str) : lookT rowsTab w = lookT knownT w := by
  cases hk : lookT knownT w with
  | some v =>
    obtain ⟨p, hp, e1, e2⟩ := look_some hk
    rw [← e1, ← e2]; exact hA p hp
  | none =>
    cases hr : lookT rowsTab w with
    | none => rfl
    | some v =>
      obtain ⟨p, hp, e1, _⟩ := look_some hr
      obtain ⟨q, hq, e3⟩ := hC p hp
      exact absurd (e3.trans e1) (look_none hk q hq)
theorem enc_same' (hA : ∀ p ∈ knownT, lookT rowsTab p.1 = some p.2) (hC : ∀ p ∈ rowsTab, ∃ q ∈ knownT, q.1 = p.1) (x : Str) : encE x = nameT knownT x := by
  unfold encE nameT
  rw [enc_rows, wanted_eq]
  exact tabs_same hA hC _
theorem keys_look {k : Str} (h : k ∈ knownT.map (·.1)) : ∃ n, lookT knownT k = some n := by
  obtain ⟨p, hp, e⟩ := List.mem_map.mp h
  cases hk : lookT knownT k with
  | some n => exact ⟨n, rfl⟩
  | none => exact absurd e (look_none hk p hp)
end Mine
end
section
open PySem PySem.W PyProof.Rows PySem.Calls PyProof.Rows.LCg
set_option maxRecDepth 100000
set_option maxHeartbeats 8000000
namespace Mine
theorem sectP6 : True := by
  w_top off
  k_with_none
  trivial
def upA (c : Nat) : Nat := if 97 ≤ c ∧ c ≤ 122 then c - 32 else c
theorem up_ascii : ((List.range 128).all fun c => Unicode.upperOf c == [upA c]) = true := by decide +kernel
end Mine
end
section
open PySem PySem.W PyProof.Rows PySem.Calls PyProof.Rows.LCg
set_option maxRecDepth 100000
set_option maxHeartbeats 8000000
namespace Mine
theorem sectP7 : True := by
  w_top off
  k_with_none
  trivial
def splitL (c : Nat) : List Nat → List (List Nat)
  | [] => [[]]
  | a :: r => if (a == c) = true then [] :: splitL c r else match splitL c r with
    | [] => [[a]]
    | x :: xs => (a :: x) :: xs
theorem splitL_free {c : Nat} : ∀ {l : List Nat}, c ∉ l → splitL c l = [l]
  | [], _ => rfl
  | a :: r, h => by
    rw [List.mem_cons, not_or] at h
    rw [splitL, if_neg (by simpa using Ne.symm h.1), splitL_free h.2]
theorem splitL_app {c : Nat} : ∀ {l r : List Nat}, c ∉ l → splitL c (l ++ c :: r) = l :: splitL c r
  | [], r, _ => by rw [List.nil_append, splitL, if_pos (by simp)]
  | a :: l, r, h => by
    rw [List.mem_cons, not_or] at h
    rw [List.cons_append, splitL, if_neg (by simpa using Ne.symm h.1), splitL_app h.2]
theorem splitL_join {c : Nat} : ∀ (ps : List Str), ps ≠ [] → (∀ p ∈ ps, c ∉ ll p) → splitL c (ll (Str.join ⟨#[c]⟩ ps)) = ps.map ll
  | [], h, _ => absurd rfl h
  | [p], _, h => splitL_free (h p (.head _))
  | p :: q :: r, _, h => by
    have e : ll (Str.join ⟨#[c]⟩ (p :: q :: r)) = ll p ++ c :: ll (Str.join ⟨#[c]⟩ (q :: r)) := by
      show ll (p ++ (⟨#[c]⟩ : Str) ++ Str.join ⟨#[c]⟩ (q :: r)) = _
      simp [ll, PySem.Str.cps_append]
    rw [e, splitL_app (h p (.head _)), splitL_join (q :: r) (by simp) fun x hx => h x (.tail _ hx)]
    rfl
theorem split_fast (x : Str) (c : Nat) : (Txt.split x ⟨#[c]⟩).map ll = splitL c (ll x) := by
  have h1 := StrLaws.join_split x ⟨#[c]⟩
  have h2 := StrLaws.split_free x c
  have h3 := (fact_split x ⟨#[c]⟩).1
  generalize Txt.split x ⟨#[c]⟩ = ps at *
  rw [← splitL_join ps (by intro e; subst e; simp at h3) h2, h1]
abbrev TN := List (List Nat × List Nat)
def nt (tb : List (Str × Str)) : TN := tb.map fun p => (ll p.1, ll p.2)
theorem sp_ll : PySem.Str.ofString " " = ⟨#[32]⟩ := by decide +kernel
theorem ll_beq (a b : Str) : (a == b) = (ll a == ll b) := by
  rw [Bool.eq_iff_iff, beq_iff_eq, beq_iff_eq]
  exact ⟨fun h => by rw [h], fun h => str_of_ll h⟩
def rowF (row : List Nat) : TN := match splitL 32 row with
  | [] => []
  | n :: ls => ls.map fun l => (l, n)
theorem row_fast (row : Str) : nt (rowPairs row) = rowF (ll row) := by
  unfold rowPairs rowF
  rw [← split_fast, sp_ll]
  cases Txt.split row ⟨#[32]⟩ with
  | nil => rfl
  | cons n ls => simp [nt, Function.comp_def]
def rowsF : TN := rowsL.flatMap fun r => rowF (ll r)
theorem rows_fast : nt rowsTab = rowsF := by
  unfold rowsTab rowsF nt
  rw [List.map_flatMap]
  congr 1
  funext r
  exact row_fast r
def putF (tb : TN) (k v : List Nat) : TN := if (tb.any fun p => p.1 == k) = true then tb.map (fun p => if (p.1 == k) = true then (p.1, v) else p) else tb ++ [(k, v)]
theorem put_fast (tb : List (Str × Str)) (k v : Str) : nt (putT tb k v) = putF (nt tb) (ll k) (ll v) := by
  have h1 : ((nt tb).any fun p => p.1 == ll k) = tb.any fun p => p.1 == k := by
    unfold nt
    rw [List.any_map]
    congr 1
    funext p
    exact (ll_beq p.1 k).symm
  unfold putT putF
  rw [h1]
  split
  · unfold nt
    rw [List.map_map, List.map_map]
    apply List.map_congr_left
    intro p _
    show (ll (if (p.1 == k) = true then (p.1, v) else p).1, ll (if (p.1 == k) = true then (p.1, v) else p).2) = if (ll p.1 == ll k) = true then (ll p.1, ll v) else (ll p.1, ll p.2)
    rw [← ll_beq]
    split <;> rfl
  · simp [nt]
def rowSF (tb : TN) (row : List Nat) : TN := match splitL 32 row with
  | [] => tb
  | n :: ls => ls.foldl (fun tb k => putF tb k n) tb
theorem rowT_fast (n : Str) : ∀ (ls : List Str) (tb : List (Str × Str)), nt (rowT tb n ls) = (ls.map ll).foldl (fun tb k => putF tb k (ll n)) (nt tb)
  | [], tb => by unfold rowT; rfl
  | k :: ls, tb => by
    have e : rowT tb n (k :: ls) = rowT (putT tb k n) n ls := by unfold rowT; rfl
    rw [e, rowT_fast n ls, put_fast, List.map_cons, List.foldl_cons]
theorem rowS_fast (tb : List (Str × Str)) (row : Str) : nt (rowS tb row) = rowSF (nt tb) (ll row) := by
  unfold rowS rowSF
  rw [← split_fast, show S " " = ⟨#[32]⟩ from sp_ll]
  cases Txt.split row ⟨#[32]⟩ with
  | nil => rfl
  | cons n ls => exact rowT_fast n ls tb
def knownF : TN := restL.foldl (fun tb r => rowSF tb (ll r)) (nt (kn3 9))
theorem fold_fast : ∀ (rs : List Str) (tb : List (Str × Str)), nt (rs.foldl rowS tb) = rs.foldl (fun tb r => rowSF tb (ll r)) (nt tb)
  | [], _ => rfl
  | r :: rs, tb => by rw [List.foldl_cons, List.foldl_cons, fold_fast rs, rowS_fast]
theorem known_fast : nt knownT = knownF := by
  have e : knownT = restL.foldl rowS (kn3 9) := by
    unfold knownT kn4
    rw [List.take_of_length_le (by rw [rest_len]; exact Nat.le_refl _)]
  rw [e, fold_fast]; rfl
def lookN (tb : TN) (k : List Nat) : Option (List Nat) := (tb.find? fun p => p.1 == k).map (·.2)
theorem look_fast (k : Str) : ∀ tb : List (Str × Str), lookN (nt tb) (ll k) = (lookT tb k).map ll
  | [] => rfl
  | p :: r => by
    have ih := look_fast k r
    unfold lookN lookT nt at *
    rw [List.map_cons, List.find?_cons, List.find?_cons]
    dsimp only
    rw [← ll_beq]
    cases (p.1 == k) with
    | true => rfl
    | false => exact ih
def lowSt (l : List Nat) : List Nat := ((((l.map lowN).dropWhile spN).reverse).dropWhile spN).reverse
/-- a list of numbers as one number; no two lists have the same -/
def enc : List Nat → Nat
  | [] => 0
  | c :: r => 2 ^ c * (2 * enc r + 1)
theorem pow_odd {a b x y : Nat} (h : 2 ^ a * (2 * x + 1) = 2 ^ b * (2 * y + 1)) : a = b ∧ x = y := by
  induction a generalizing b with
  | zero =>
    cases b with
    | zero => exact ⟨rfl, by omega⟩
    | succ b =>
      rw [Nat.pow_succ, Nat.mul_comm (2 ^ b) 2, Nat.mul_assoc] at h
      generalize 2 ^ b * (2 * y + 1) = z at h
      simp at h; omega
  | succ a ih =>
    cases b with
    | zero =>
      rw [Nat.pow_succ, Nat.mul_comm (2 ^ a) 2, Nat.mul_assoc] at h
      generalize 2 ^ a * (2 * x + 1) = z at h
      simp at h; omega
    | succ b =>
      rw [Nat.pow_succ, Nat.mul_comm (2 ^ a) 2, Nat.mul_assoc, Nat.pow_succ, Nat.mul_comm (2 ^ b) 2, Nat.mul_assoc] at h
      have := ih (b := b) (by omega)
      exact ⟨by omega, this.2⟩
theorem enc_inj : ∀ {a b : List Nat}, enc a = enc b → a = b
  | [], [], _ => rfl
  | [], c :: r, h => by
    have := Nat.mul_pos (Nat.pow_pos (n := c) (a := 2) (by decide)) (Nat.succ_pos (2 * enc r))
    unfold enc at h
    rw [← h] at this; exact absurd this (by decide)
  | c :: r, [], h => by
    have := Nat.mul_pos (Nat.pow_pos (n := c) (a := 2) (by decide)) (Nat.succ_pos (2 * enc r))
    unfold enc at h
    rw [h] at this; exact absurd this (by decide)
  | c :: r, d :: t, h => by
    unfold enc at h
    obtain ⟨h1, h2⟩ := pow_odd h
    rw [h1, enc_inj h2]
/-- the same with low digits that differ (the kernel's hash of a number is its low 64 bits) -/
def mixN (e : Nat) : Nat := 18446744073709551616 * e + e % 2305843009213693951
def encH (l : List Nat) : Nat := mixN (enc l)
theorem mix_inj {B P a b : Nat} (hP : 0 < P) (hB : P ≤ B) (h : B * a + a % P = B * b + b % P) : a = b := by
  have h1 : (B * a + a % P) / B = a := by
    rw [Nat.mul_add_div (by omega), Nat.div_eq_of_lt (Nat.lt_of_lt_of_le (Nat.mod_lt _ hP) hB)]; rfl
  have h2 : (B * b + b % P) / B = b := by
    rw [Nat.mul_add_div (by omega), Nat.div_eq_of_lt (Nat.lt_of_lt_of_le (Nat.mod_lt _ hP) hB)]; rfl
  rw [← h1, h, h2]
theorem mixN_inj {a b : Nat} (h : mixN a = mixN b) : a = b := mix_inj (by decide) (by decide) h
theorem encH_beq (a b : List Nat) : Nat.beq (encH a) (encH b) = (a == b) := by
  rw [Bool.eq_iff_iff, Nat.beq_eq, beq_iff_eq]
  exact ⟨fun h => enc_inj (mixN_inj h), fun h => by rw [h]⟩
/-- gives f the number worked out -/
def strict {α : Type} (n : Nat) (f : Nat → α) : α := Nat.rec (f 0) (fun m _ => f (Nat.succ m)) n
theorem strict_eq {α : Type} (n : Nat) (f : Nat → α) : strict n f = f n := by cases n <;> rfl
def forceL {α : Type} : List Nat → (List Nat → α) → α
  | [], f => f []
  | a :: r, f => strict a fun a => forceL r fun r => f (a :: r)
theorem forceL_eq {α : Type} : ∀ (l : List Nat) (f : List Nat → α), forceL l f = f l
  | [], f => rfl
  | a :: r, f => by rw [forceL, strict_eq, forceL_eq r]
def forceLL {α : Type} : List (List Nat) → (List (List Nat) → α) → α
  | [], f => f []
  | a :: r, f => forceL a fun a => forceLL r fun r => f (a :: r)
theorem forceLL_eq {α : Type} : ∀ (l : List (List Nat)) (f : List (List Nat) → α), forceLL l f = f l
  | [], f => rfl
  | a :: r, f => by rw [forceLL, forceL_eq, forceLL_eq r]
def forceLLL {α : Type} : List (List (List Nat)) → (List (List (List Nat)) → α) → α
  | [], f => f []
  | a :: r, f => forceLL a fun a => forceLLL r fun r => f (a :: r)
theorem forceLLL_eq {α : Type} : ∀ (l : List (List (List Nat))) (f : List (List (List Nat)) → α), forceLLL l f = f l
  | [], f => rfl
  | a :: r, f => by rw [forceLLL, forceLL_eq, forceLLL_eq r]
abbrev TQ := List (Nat × Nat)
def forceT {α : Type} : TQ → (TQ → α) → α
  | [], f => f []
  | p :: r, f => strict p.1 fun a => strict p.2 fun b => forceT r fun r => f ((a, b) :: r)
theorem forceT_eq {α : Type} : ∀ (l : TQ) (f : TQ → α), forceT l f = f l
  | [], f => rfl
  | p :: r, f => by rw [forceT, strict_eq, strict_eq, forceT_eq r]
def eT (tb : TN) : TQ := tb.map fun p => (encH p.1, encH p.2)
def lookQ : TQ → Nat → Nat → Bool
  | [], _, _ => false
  | p :: r, k, v => bif Nat.beq p.1 k then Nat.beq p.2 v else lookQ r k v
def hasQ : TQ → Nat → Bool
  | [], _ => false
  | p :: r, k => bif Nat.beq p.1 k then true else hasQ r k
def putQ (tb : TQ) (k v : Nat) : TQ := bif hasQ tb k then tb.map (fun p => bif Nat.beq p.1 k then (p.1, v) else p) else tb ++ [(k, v)]
def putsQ (v : Nat) : List Nat → TQ → TQ
  | [], tb => tb
  | k :: ks, tb => putsQ v ks (putQ tb k v)
def rowSQ (tb : TQ) : List Nat → TQ
  | [] => tb
  | n :: ls => putsQ n ls tb
def rowQ : List (List Nat) → TQ
  | [] => []
  | n :: ls => ls.map fun l => (encH l, encH n)
def allQ {α : Type} (f : α → Bool) : List α → Bool
  | [] => true
  | a :: r => bif f a then allQ f r else false
def okRow (r : TQ) : List (List Nat) → Bool
  | [] => true
  | n :: ls => Nat.ble n.length 64 && allQ (fun c => Nat.blt c 128) n && allQ (fun l => Nat.ble l.length 64) ls && lookQ r (encH (lowSt n)) (encH n)
def rowsW : List (List (List Nat)) := rowsL.map fun r => splitL 32 (ll r)
def restQ : List (List Nat) := restL.map fun r => (splitL 32 (ll r)).map encH
def tabQ (w : List (List (List Nat))) : TQ := w.flatMap rowQ
def foldQ (q : List (List Nat)) (k : TQ) : TQ := q.foldl rowSQ k
def checkQ (k r : TQ) (w : List (List (List Nat))) : Bool :=
  Nat.beq k.length 228 && allQ (fun p => lookQ r p.1 p.2) k && allQ (fun p => hasQ k p.1) r && allQ (okRow r) w
def checkN : Bool := forceLLL rowsW fun w => forceT (tabQ w) fun r => forceLL restQ fun q => forceT (eT (nt (kn3 9))) fun k0 => forceT (foldQ q k0) fun k => checkQ k r w
theorem allQ_iff {α : Type} {f : α → Bool} : ∀ {l : List α}, allQ f l = true → ∀ a ∈ l, f a = true
  | [], _, a, h => absurd h (by simp)
  | b :: r, h, a, ha => by
    unfold allQ at h
    cases hb : f b with
    | false => rw [hb] at h; cases h
    | true =>
      rw [hb] at h
      rcases List.mem_cons.mp ha with rfl | ha
      · exact hb
      · exact allQ_iff h a ha
theorem lookQ_eT (k v : List Nat) : ∀ tb : TN, lookQ (eT tb) (encH k) (encH v) = true → lookN tb k = some v
  | [], h => by cases h
  | p :: r, h => by
    unfold eT at h
    rw [List.map_cons] at h
    unfold lookQ at h
    rw [encH_beq] at h
    unfold lookN
    rw [List.find?_cons]
    cases hp : p.1 == k with
    | true =>
      rw [hp, cond_true, encH_beq, beq_iff_eq] at h
      rw [← h]; rfl
    | false =>
      rw [hp, cond_false] at h
      exact lookQ_eT k v r h
theorem hasQ_eT (k : List Nat) : ∀ tb : TN, hasQ (eT tb) (encH k) = tb.any fun p => p.1 == k
  | [] => rfl
  | p :: r => by
    unfold eT
    rw [List.map_cons, List.any_cons]
    unfold hasQ
    rw [encH_beq]
    have ih := hasQ_eT k r
    unfold eT at ih
    rw [ih]
    cases p.1 == k with
    | true => rw [cond_true, Bool.true_or]
    | false => rw [cond_false, Bool.false_or]
theorem putQ_eT (tb : TN) (k v : List Nat) : putQ (eT tb) (encH k) (encH v) = eT (putF tb k v) := by
  unfold putQ putF
  rw [hasQ_eT]
  cases tb.any fun p => p.1 == k with
  | true =>
    rw [cond_true, if_pos rfl]
    unfold eT
    rw [List.map_map, List.map_map]
    apply List.map_congr_left
    intro p _
    rw [Function.comp_apply, Function.comp_apply]
    dsimp only
    rw [encH_beq]
    cases hp : p.1 == k with
    | true => rw [cond_true, if_pos rfl]
    | false => rw [cond_false, if_neg (by simp)]
  | false =>
    rw [cond_false, if_neg (by simp)]
    unfold eT
    rw [List.map_append, List.map_cons, List.map_nil]
theorem putsQ_eT (n : List Nat) : ∀ (ls : List (List Nat)) (tb : TN), putsQ (encH n) (ls.map encH) (eT tb) = eT (ls.foldl (fun tb k => putF tb k n) tb)
  | [], tb => rfl
  | k :: ls, tb => by
    rw [List.map_cons, List.foldl_cons]
    unfold putsQ
    rw [putQ_eT, putsQ_eT n ls]
theorem rowSQ_eT (tb : TN) (row : List Nat) : rowSQ (eT tb) ((splitL 32 row).map encH) = eT (rowSF tb row) := by
  unfold rowSF
  cases splitL 32 row with
  | nil => rfl
  | cons n ls => exact putsQ_eT n ls tb
theorem foldQ_eT : ∀ (rs : List Str) (tb : TN), foldQ (rs.map fun r => (splitL 32 (ll r)).map encH) (eT tb) = eT (rs.foldl (fun tb r => rowSF tb (ll r)) tb)
  | [], _ => rfl
  | r :: rs, tb => by
    unfold foldQ
    rw [List.map_cons, List.foldl_cons, List.foldl_cons, rowSQ_eT]
    exact foldQ_eT rs _
theorem rowQ_eT (row : List Nat) : rowQ (splitL 32 row) = eT (rowF row) := by
  unfold rowF
  cases splitL 32 row with
  | nil => rfl
  | cons n ls =>
    show ls.map _ = eT (ls.map _)
    unfold eT
    rw [List.map_map]; rfl
theorem tabQ_eT : ∀ rs : List Str, tabQ (rs.map fun r => splitL 32 (ll r)) = eT (rs.flatMap fun r => rowF (ll r))
  | [] => rfl
  | r :: rs => by
    have ih := tabQ_eT rs
    unfold tabQ at ih ⊢
    unfold eT at ih ⊢
    rw [List.map_cons, List.flatMap_cons, List.flatMap_cons, List.map_append, ← ih, rowQ_eT]
    rfl
theorem checkedN : checkN = true := by decide +kernel
theorem checkedQ : checkQ (eT knownF) (eT rowsF) rowsW = true := by
  have h := checkedN
  unfold checkN at h
  rw [forceLLL_eq, forceT_eq, forceLL_eq, forceT_eq, forceT_eq] at h
  unfold rowsW at h
  rw [tabQ_eT] at h
  unfold restQ at h
  rw [foldQ_eT] at h
  exact h
theorem row_ok {row : List Nat} {p : List Nat × List Nat} (h : okRow (eT rowsF) (splitL 32 row) = true) (hp : p ∈ rowF row) : p.1.length ≤ 64 ∧ p.2.length ≤ 64 ∧ lookN rowsF (lowSt p.2) = some p.2 ∧ ∀ c ∈ p.2, c < 128 := by
  unfold rowF at hp
  cases hs : splitL 32 row with
  | nil => rw [hs] at hp; cases hp
  | cons n ls =>
    rw [hs] at h hp
    unfold okRow at h
    simp only [Bool.and_eq_true] at h
    obtain ⟨⟨⟨h1, h2⟩, h3⟩, h4⟩ := h
    have hp' : p ∈ ls.map fun l => (l, n) := hp
    obtain ⟨l, hl, rfl⟩ := List.mem_map.mp hp'
    refine ⟨Nat.le_of_ble_eq_true (allQ_iff h3 l hl), Nat.le_of_ble_eq_true h1, lookQ_eT _ _ _ h4, fun c hc => ?_⟩
    have := allQ_iff h2 c hc
    unfold Nat.blt at this
    exact Nat.le_of_ble_eq_true this
theorem checkedP : knownF.length = 228 ∧ (∀ p ∈ knownF, p.1.length ≤ 64 ∧ p.2.length ≤ 64 ∧ lookN rowsF p.1 = some p.2 ∧ lookN rowsF (lowSt p.2) = some p.2 ∧ ∀ c ∈ p.2, c < 128) ∧ ∀ p ∈ rowsF, ∃ q ∈ knownF, q.1 = p.1 := by
  have h := checkedQ
  unfold checkQ at h
  simp only [Bool.and_eq_true] at h
  obtain ⟨⟨⟨h1, h2⟩, h3⟩, h4⟩ := h
  have e1 := Nat.eq_of_beq_eq_true h1
  unfold eT at e1
  rw [List.length_map] at e1
  have hr : ∀ p ∈ rowsF, p.1.length ≤ 64 ∧ p.2.length ≤ 64 ∧ lookN rowsF (lowSt p.2) = some p.2 ∧ ∀ c ∈ p.2, c < 128 := by
    intro p hp
    obtain ⟨r, hr, hpr⟩ := List.mem_flatMap.mp hp
    exact row_ok (allQ_iff h4 _ (List.mem_map.mpr ⟨r, hr, rfl⟩)) hpr
  refine ⟨e1, fun p hp => ?_, fun p hp => ?_⟩
  · have hl : lookN rowsF p.1 = some p.2 := lookQ_eT _ _ _ (allQ_iff h2 (encH p.1, encH p.2) (List.mem_map.mpr ⟨p, hp, rfl⟩))
    have hm : p ∈ rowsF := by
      have hl' := hl
      unfold lookN at hl'
      cases hf : rowsF.find? fun q => q.1 == p.1 with
      | none => rw [hf] at hl'; cases hl'
      | some q =>
        rw [hf] at hl'
        have e2 : q.2 = p.2 := Option.some.inj hl'
        have e3 : q.1 = p.1 := by simpa using List.find?_some hf
        have : q = p := Prod.ext e3 e2
        exact this ▸ List.mem_of_find?_eq_some hf
    obtain ⟨a, b, c, d⟩ := hr p hm
    exact ⟨a, b, hl, c, d⟩
  · have hh : hasQ (eT knownF) (encH p.1) = true := allQ_iff h3 (encH p.1, encH p.2) (List.mem_map.mpr ⟨p, hp, rfl⟩)
    rw [hasQ_eT, List.any_eq_true] at hh
    obtain ⟨q, hq, e⟩ := hh
    exact ⟨q, hq, by simpa using e⟩
end Mine
end
section
open PySem PySem.W PyProof.Rows PySem.Calls PyProof.Rows.LCg
set_option maxRecDepth 100000
set_option maxHeartbeats 8000000
namespace Mine
theorem sectF14 : True := by
  w_top off
  k_with_none
  trivial
section
open PyProof.V PySem.Spec PyProof.Rows.LCt
variable {prog : Program} {w : World} {A : Around} {E : Value → Shared → Prop} {s : Shared} {env : Env} {h₀ : Heap} {L : Addr} {m : Str → Option Value} {x : Str}
theorem my_restT {ct elt : PySem.Expr} {scope : Scope} {cl : List (Str × Addr)} {S : List (Addr × Obj) → Prop} {P : Nat → Value → Prop} {Fin : List Value → List (Addr × Obj) → Prop} {n : Nat} {news : List (Addr × Obj)} (Inv : Nat → List Value → Prop) (hS : S news)
    (he : ∀ i ys v I oI C oC D m₂ h tk (E' : Value → Shared → Prop), i < n → P i v → Inv i ys → NsObj oC m₂ → m₂ x = some v → Fr h₀ L h m → News h₀ L h ((I, oI) :: (C, oC) :: (D, lst ys) :: news) → Off3 I C D news → ((@Ne Nat I C) ∧ (@Ne Nat I D) ∧ (@Ne Nat C D)) →
      wpAny (model prog w) A (isTrue ct (compEnvC scope cl C env) (eval ct (compEnvC scope cl C env))) (fun ok s' => if ok = true then
        wpAny (model prog w) A (eval elt (compEnvC scope cl C env)) (CEnd h₀ L m { s with heap := h, toks := tk } I oI C oC D (lst ys) news (fun y => Inv (i + 1) (ys ++ [y]))) E' s'
        else CEnd h₀ L m { s with heap := h, toks := tk } I oI C oC D (lst ys) news (fun _ => Inv (i + 1) ys) Value.none s') E' { s with heap := h, toks := tk })
    (fin : ∀ ys, Inv n ys → Fin ys news) :
    ∀ k i ys, i + k = n → Inv i ys → CompRestT prog w A h₀ L m env ct elt x scope cl s S P Fin k i ys news := by
  intro k
  induction k with
  | zero => intro i ys hi hv; exact CompRestT.zero (fin ys (by have : i = n := by omega
                                                               exact this ▸ hv))
  | succ k ih =>
    intro i ys hi hv
    refine CompRestT.succ fun v I oI C oC D m₂ h tk E' hP hNs hx F N off hne => ?_
    refine wpAny_mono (he i ys v I oI C oC D m₂ h tk E' (by omega) hP hv hNs hx F N off hne) (fun ok s₂ hy => ?_) fun _ _ e => e
    cases ok with
    | true =>
      simp only [if_true] at hy ⊢
      refine wpAny_mono hy (fun y s₃ hy => ?_) fun _ _ e => e
      obtain ⟨h', tk', all, rfl, F', N', sub, hr⟩ := hy
      exact CompEnd.intro F' N' news sub off hS (ih (i + 1) (ys ++ [y]) (by omega) hr)
    | false =>
      simp only [Bool.false_eq_true, if_false] at hy ⊢
      obtain ⟨h', tk', all, rfl, F', N', sub, hr⟩ := hy
      exact CompEnd.intro F' N' news sub off hS (ih (i + 1) ys (by omega) hr)
end
variable {w : World} {mean : ExcName → Option Value} {mg mb : Str → Option Value}
theorem linesF14_1 : True := by
  k_with "call ref" => first | ((k_here; with_reducible refine my_at 136 ?_); k_dflt ((refine' Cl.useS (law_lowered_cl _ _) ?k1 ?k2 ?k3 ?k4 ?k5 ?kK ?kd ?ku ?kp ?_; (case k1 => k_asm); (case k2 => k_asm); (case k3 => k_asm); (case k4 => k_asm); (case k5 => k_asm); (case kK => first | exact rfl | assumption); (case kd => (try dsimp only); omega); (case ku => (try dsimp only); omega)); (case kp => first | exact trivial | k_asm); k_whole); (intro h9 tk9 F9 N9 t9; try k_sweep); (have hl9 := lowT_le (by assumption))) | ((k_here; with_reducible refine my_at 143 ?_); k_dflt ((refine' Cl.useP (law_name_cl _ _ _ _ _) ?k1 ?k2 ?k3 ?k4 ?k5 ?kK ?kd ?ku ?kp ?_; (case k1 => k_asm); (case k2 => k_asm); (case k3 => k_asm); (case k4 => k_asm); (case k5 => k_asm); (case kK => first | exact rfl | assumption); (case kd => (try dsimp only); omega); (case ku => (try dsimp only); omega)); (case kp => (refine ⟨?_, Fr.keep (by k_asm) _ _ (by with_reducible assumption), by with_reducible assumption, by with_reducible assumption⟩; (first | omega | k_asm))); k_whole); (intro v9 h9 tk9 F9 N9 r9; try k_sweep))
  k_with "call builtin:str.split" => (k_here; (try dsimp only [List.nil_append, List.cons_append]); (with_reducible show wpAny _ _ (call (Value.builtin "str.split") [Value.str _ _, Value.str _ _]) _ _ _); (with_reducible rename Fr _ _ _ _ => F'); (with_reducible rename News _ _ _ _ => N'); k_dflt (refine' my_split F' N' ?e0 ?e1 ?_; (case e0 => first | with_reducible assumption | exact rfl | decide +kernel); (case e1 => first | omega | k_asm)); intro n9 ls9 t9 r9 D9 h9 tk9 e9 hs9 hl9 F9 N9 l9; (have hn9 := split_head_len e9); (try k_lt l9); (try k_sweep))
  k_with "call builtin:len" => (k_here; (with_reducible show wpAny _ _ (call (Value.builtin "len") [Value.ref _]) _ _ _); (with_reducible rename News _ _ _ _ => N'); k_dflt (refine my_lenL N' (by k_asm) ?_))
  k_with "subscriptTail" => (k_here; (with_reducible show wpAny _ _ (subscriptTail _ _ (Value.ref _) (Value.int 0 _)) _ _ _); (with_reducible rename News _ _ _ _ => N'); k_dflt (refine my_itemL0 N' ?_))
  k_with "newList" => (k_here; (with_reducible show wpAny _ _ (newList (Value.str _ _ :: Value.str _ _ :: _)) _ _ _); (with_reducible rename Fr _ _ _ _ => F'); (with_reducible rename News _ _ _ _ => N'); k_dflt (refine' my_newStrs F' N' ?k3 ?k4 ?_; (case k3 => repeat (first | exact StrsAre.nil | refine StrsAre.cons _ _ ?_)); (case k4 => simp only [List.length_cons, List.length_nil]; decide); k_whole); intro l' h' vs9 hi9 F' N' l1; (simp only [List.map_cons, List.map_nil, vStr] at hi9); (try k_lt l1); (try k_sweep))
  k_with "exec If" => (k_here; (with_reducible show wpAny _ _ (exec (Stmt.If (PySem.Expr.Compare _ [CmpOp.In] _ _) _ _ _) _) _ _ _); refine Stop.out ?_)
  k_with "pyIter ref" => (k_here; (with_reducible show wpAny _ _ (pyIter (Value.ref _)) (fun _ _ => LoopAtV _ _ _ _ _ _ _ _ _ _ _) _ _); refine Stop.out ?_)
  k_with "exec For Name ListComp cons nil" => refine Stop.out ?_
  k_with "exec For Name List cons nil" => refine Stop.out ?_
  k_with "CompSrcT" => refine Stop.out ?_
  trivial
theorem law_content_cl (d : Addr) (o : Obj) (tb : List (Str × Str)) (x : Str) (t : Tok) : Cl w mean mg mb 3 160 [.ref d, .str x t] (fun h => x.length ≤ 1000000 ∧ h.get? d = some o ∧ TabObj w o tb ∧ (d == sysModules) = false) (fun _ v _ => ∃ r, LawC tb (lowT x) r ∧ optR r v) := by
  refine cl_ofC (binds := [(PySem.Str.ofString "known", _), (PySem.Str.ofString "text", _)]) (by k_is) (by k_is) (fun s => BindsTo.of_eq rfl) rfl (by decide +kernel) rfl rfl rfl ?_
  intro dp un gd outer A₀ base g L h₁ cells s B' F' X' N' Y' T' hdp hun hD hpre hs
  subst hs
  k_cells Y'
  (try simp only [List.cons_append, List.nil_append] at N')
  (try k_unmd)
  (try dsimp only)
  (try k_unmd)
  k_fold
  obtain ⟨hx, ho, hT, hm⟩ := hpre
  have hx1 : x.length ≤ 1000000 := by omega
  k_steps
  have hlow : (lowT x).length ≤ 1000000 := by rw [lowT_len]; exact hx
  generalize hy : lowT x = y at *
  rename Fr _ _ _ _ => F1
  rename News _ _ _ _ => N1
  unfold Stop
  with_reducible refine For_invVF F1 ?hx1 ?hp1 ?h1 ?hs1 ?hE1
  case hx1 => rfl
  case hp1 => rfl
  case hs1 => intro _; rfl
  case hE1 => with_unfolding_all passes_own
  refine LCt.ListComp_T (F₀ := F1) (by with_unfolding_all rfl) (by decide) (by rfl) (by decide) (by rfl) ?_
  k_steps
  unfold Stop
  rename Fr _ _ _ _ => F2
  rename News _ _ _ _ => N2
  rename IsRange _ _ _ _ _ _ _ _ => hr
  refine LCt.CompSrcT.range rfl F2 N2 hr (small_one (by omega) (by omega) (by omega) (by omega)) (rangeSize_nat _ _) (by rw [PySem.sizeLine_eq]; omega) ?_
  intro g'
  refine my_restT (fun i ys => IntsAre ys (placesL y i)) trivial ?_ ?_ _ 0 [] (Nat.zero_add _) .nil
  · rintro i ys v I oI C oC D m₂ h tk E' hi ⟨tv, rfl⟩ hv hNs hx F N off hne
    k_fold
    k_steps
    · rename ((_ == _) = true) => hb
      rw [Int.zero_add] at hb
      ((try dsimp only); (rename Fr _ _ _ _ => Fe); (rename News _ _ _ _ => Ne); refine CEnd.intro Fe Ne (by with_unfolding_all k_allIn) ?_)
      rw [places_yes (show hitB y i = true from hb), Int.zero_add]
      exact hv.append (.cons _ _ .nil)
    · rename ((_ == _) = false) => hb
      rw [Int.zero_add] at hb
      ((try dsimp only); (rename Fr _ _ _ _ => Fe); (rename News _ _ _ _ => Ne); refine CEnd.intro Fe Ne (by with_unfolding_all k_allIn) ?_)
      rw [places_no (show hitB y i = false from hb)]
      exact hv
  · intro ys hv D h tk F N off
    dsimp only
    have hn : ((y.length : Int) - 0).toNat = y.length := by omega
    rw [hn] at hv
    k_steps
    refine my_listL (σ := Option Value) (fun _ => _) (mpo (PySem.Str.ofString "rest")) (fun i _ => noEq y i) none (by rfl) (by rfl) (News.isList N (.head _)) ?hlL2 ?hlN2 F (fun p hp => N p (.tail _ hp)) (mpo_start (by rfl)) (noEq_zero y) ?turn2 ?done2
    case hlL2 => exact (N _ (.head _)).2.1
    case hlN2 => exact fun q hq => by rw [List.mem_singleton.mp hq]; exact off.1
    case turn2 =>
      intro i c v h tk own hv hoff hc hadr F N
      simp only [List.cons_append, List.nil_append] at N
      dsimp only
      k_fold
      obtain ⟨p, tv, hp, rfl⟩ := IntsAre.get (by assumption) (by simpa using hv)
      obtain ⟨k, rfl, hk, hb⟩ := places_mem hp
      k_steps
      · have hvl : (Txt.lstripChars (Txt.slice (Txt.lstripChars (Txt.slice y (some ((k : Int) + 7)) none) (PySem.Str.ofString "\t\n\x0c\r ")) (some 1) none) (PySem.Str.ofString "\t\n\x0c\r ")).length ≤ 1000000 := by omega
        unfold Stop
        with_reducible refine wpAny_If ?_
        have hvv : Txt.lstripChars (Txt.slice (Txt.lstripChars (Txt.slice y (some ((k : Int) + 7)) none) (PySem.Str.ofString "\t\n\x0c\r ")) (some 1) none) (PySem.Str.ofString "\t\n\x0c\r ") = valS y k := rfl
        with_reducible rename Fr _ _ _ _ => F9
        with_reducible rename ((Txt.slice _ none _ == _) = true) => hq1
        have he : eqB y k = true := hq1
        obtain ⟨val, hval⟩ : ∃ v, valS y k = v := ⟨_, rfl⟩
        rw [hvv, hval] at F9 hvl
        clear hvv hq1
        iterate 19 walk1
        · with_reducible rename (List.any _ _ = _) => hq
          have hv0 := q_pos hq
          k_steps
          all_goals (with_reducible rename (Txt.split _ _ = _) => e9)
          all_goals (with_reducible rename (StrsAre _ _) => hs9)
          · with_reducible rename ((1 : Int) < _) => hgt
            with_reducible rename (optR _ _) => hr
            (try dsimp only [MyPost])
            ((try dsimp only [MyPost, WPost, XPost]); (try k_unfold); (try dsimp only [MyPost, WPost, XPost]); (try k_unfold); (try dsimp only [MyPost, WPost, XPost]); (try k_unfold); (try dsimp only); refine Done.intro (by assumption) ?_)
            rw [hy]
            exact ⟨_, lawC_at hp hc he hval (told_part hq e9 hs9 (by omega)), hr⟩
          · with_reducible rename (¬ (1 : Int) < _) => hgt
            (try dsimp only [MyPost])
            ((try dsimp only [MyPost, WPost, XPost]); (try k_unfold); (try dsimp only [MyPost, WPost, XPost]); (try k_unfold); (try dsimp only [MyPost, WPost, XPost]); (try k_unfold); (try dsimp only); refine Done.intro (by assumption) ?_)
            rw [hy]
            exact ⟨_, lawC_at hp hc he hval (told_none hq e9 hs9 (by omega)), rfl⟩
        · with_reducible rename (List.any _ _ = _) => hq
          k_steps
          unfold Stop
          with_reducible rename Fr _ _ _ _ => F4
          with_reducible rename News _ _ _ _ => N4
          with_reducible refine For_invVF F4 ?hx4 ?hp4 ?h4 ?hs4 ?hE4
          case hx4 => rfl
          case hp4 => rfl
          case hs4 => intro _; rfl
          case hE4 => with_unfolding_all passes_own
          k_unmd
          k_fold
          k_steps
          unfold Stop
          with_reducible rename StrsAre _ (_ :: _) => hi9
          with_reducible rename Fr _ _ _ _ => F5
          with_reducible rename News _ _ _ _ => N5
          with_reducible rename (_ < _ ∧ _ < _ ∧ AllLt _ _) => l5
          have hl5 := News.isList N5 (.head _)
          have hN5 := news_tail N5
          with_reducible refine my_listL (σ := Str × Tok) (fun _ => _) (fun M c => mp1 (PySem.Str.ofString "value") (fun c => .str c.1 c.2) M c) (fun i c => c.1 = cutS val i) (val, ?tv5) ?hLe5 ?hh5 hl5 ?hlL5 ?hlN5 F5 hN5 ?hm5 ?hp5 ?turn5 ?done5
          case hLe5 => rfl
          case hh5 => rfl
          case hlL5 => exact news_hd N5
          case hlN5 => exact allLt_ne l5.1 l5.2.1 l5.2.2
          case hm5 => exact mp1_start (by rfl)
          case hp5 => exact cutS_zero val
          case turn5 =>
            intro i5 c5 v5 h5 tk5 own5 hv5 hoff5 hc5 hadr5 F N
            simp only [List.cons_append] at N
            dsimp only
            k_fold
            obtain ⟨sp, ts, hsp, rfl⟩ := StrsAre.at hi9 (by simpa using hv5)
            have hs0 := stops_len hsp
            have hcl : c5.1.length ≤ 1000000 := by rw [hc5]; exact Nat.le_trans (cutS_len val i5) (by omega)
            -- CUT B
            k_steps
            with_reducible rename Fr _ _ _ _ => Fe
            with_reducible rename News _ _ _ _ => Ne
            with_reducible rename (Txt.split _ _ = _ :: _) => e9
            (try dsimp only [MyPost])
            refine MyEnd.intro (_, _) Fe Ne ?el5 ?eo5 rfl (mp1_end (f := fun c : Str × Tok => Value.str c.1 c.2) (c := (_, _))) ?ep5
            case el5 => exact fun p hp => List.Mem.tail _ (List.mem_append_left own5 hp)
            case eo5 => exact fun p hp => List.Mem.tail _ (List.mem_append_right (_ :: _ :: own) hp)
            case ep5 =>
              rw [cutS_succ hsp, ← hc5, headS_of e9]
            -- END B
          case done5 =>
            rintro c5 u5 h5 tk5 hc5 hadr5 F N
            dsimp only
            have hc6 := cut_done hi9 hc5
            have hcl6 : c5.1.length ≤ 1000000 := by rw [hc6]; exact Nat.le_trans (cutS_len val 6) (by omega)
            k_unmd
            k_fold
            k_steps
            with_reducible rename (optR _ _) => hr
            rw [hc6] at hr
            (try dsimp only [MyPost])
            ((try dsimp only [MyPost, WPost, XPost]); (try k_unfold); (try dsimp only [MyPost, WPost, XPost]); (try k_unfold); (try dsimp only [MyPost, WPost, XPost]); (try k_unfold); (try dsimp only); refine Done.intro (by assumption) ?_)
            rw [hy]
            exact ⟨_, lawC_at hp hc he hval (told_cut hq), hr⟩
      · with_reducible rename ((Txt.slice _ none _ == _) = false) => hq1
        have he : eqB y k = false := hq1
        (try dsimp only [MyPost])
        with_reducible rename Fr _ _ _ _ => Fe
        with_reducible rename News _ _ _ _ => Ne
        refine MyEnd.intro _ Fe Ne ?el ?eo rfl mpo_end (noEq_succ hc hp he)
        case el => exact fun p hp => by rw [List.mem_singleton.mp hp]; exact .head _
        case eo => exact fun p hp => .tail _ hp
    case done2 =>
      intro c u h tk hc hadr F N
      dsimp only
      have hc2 := noEq_done hv hc
      k_unmd
      k_steps
      ((try dsimp only [MyPost, WPost, XPost]); (try k_unfold); (try dsimp only [MyPost, WPost, XPost]); (try k_unfold); (try dsimp only [MyPost, WPost, XPost]); (try k_unfold); (try dsimp only); refine Done.intro (by assumption) ?_)
      rw [hy]
      exact ⟨none, .inr ⟨hc2, rfl⟩, rfl⟩
end Mine
end
section
open PySem PySem.W PyProof.Rows PySem.Calls PyProof.Rows.LCg
set_option maxRecDepth 100000
set_option maxHeartbeats 8000000
namespace Mine
theorem sectF15 : True := by
  w_top off
  k_with_none
  trivial
variable {w : World} {mean : ExcName → Option Value} {mg mb : Str → Option Value}
abbrev sGt : Str := PySem.Str.ofString ">"
abbrev sSl : Str := PySem.Str.ofString "/"
abbrev sNil : Str := PySem.Str.ofString ""
inductive StA
  | before | name | after | wanted | quoted | bare
def stN : StA → Str
  | .before => PySem.Str.ofString "before"
  | .name => PySem.Str.ofString "name"
  | .after => PySem.Str.ofString "after"
  | .wanted => PySem.Str.ofString "wanted"
  | .quoted => PySem.Str.ofString "quoted"
  | .bare => PySem.Str.ofString "bare"
abbrev gapS (x : Str) : Bool := [PySem.Str.ofString "\t", PySem.Str.ofString "\n", PySem.Str.ofString "\x0c", PySem.Str.ofString "\r", PySem.Str.ofString " "].any fun y => y == x
/-- the law's walk over the lowered octets -/
def runA : List Nat → Nat → StA → Str → Str → Str → Option (Str × Str × Int)
  | [], _, _, _, _, _ => none
  | k :: r, a, .before, nm, va, q => if ((⟨#[k]⟩ : Str) == sGt) = true then none else if gapS ⟨#[k]⟩ = true then runA r (a + 1) .before nm va q else if ((⟨#[k]⟩ : Str) != sSl) = true then runA r (a + 1) .name ⟨#[k]⟩ va q else runA r (a + 1) .before nm va q
  | k :: r, a, .name, nm, va, q => if ([sSl, sGt].any fun y => y == (⟨#[k]⟩ : Str)) = true then some (nm, sNil, (a : Int)) else if ((⟨#[k]⟩ : Str) == eqS) = true then runA r (a + 1) .wanted nm va q else if gapS ⟨#[k]⟩ = true then runA r (a + 1) .after nm va q else runA r (a + 1) .name (nm ++ ⟨#[k]⟩) va q
  | k :: r, a, .after, nm, va, q => if ((⟨#[k]⟩ : Str) == eqS) = true then runA r (a + 1) .wanted nm va q else if gapS ⟨#[k]⟩ = true then runA r (a + 1) .after nm va q else some (nm, sNil, (a : Int))
  | k :: r, a, .wanted, nm, va, q => if ((⟨#[k]⟩ : Str) == sGt) = true then some (nm, sNil, (a : Int)) else if ([PySem.Str.ofString "\"", PySem.Str.ofString "'"].any fun y => y == (⟨#[k]⟩ : Str)) = true then runA r (a + 1) .quoted nm va ⟨#[k]⟩ else if gapS ⟨#[k]⟩ = true then runA r (a + 1) .wanted nm va q else runA r (a + 1) .bare nm ⟨#[k]⟩ q
  | k :: r, a, .quoted, nm, va, q => if ((⟨#[k]⟩ : Str) == q) = true then some (nm, va, (a : Int) + 1) else runA r (a + 1) .quoted nm (va ++ ⟨#[k]⟩) q
  | k :: r, a, .bare, nm, va, q => if gapS ⟨#[k]⟩ = true then some (nm, va, (a : Int)) else if ((⟨#[k]⟩ : Str) == sGt) = true then some (nm, va, (a : Int)) else runA r (a + 1) .bare nm (va ++ ⟨#[k]⟩) q

theorem splitF {f g : Str → Option Value} {P R S T U V : Str → Prop} (a : Str) (h1 : f a = g a) (h2 : ∀ z, z ≠ a → V z → U z → T z → S z → R z → P z → f z = g z) : ∀ z, V z → U z → T z → S z → R z → P z → f z = g z := fun z hv hu ht hs hr hz => by
  by_cases e : z = a
  · rw [e]; exact h1
  · exact h2 z e hv hu ht hs hr hz
theorem splitG {f g : Str → Option Value} {P R S T U V X : Str → Prop} (a : Str) (h1 : f a = g a) (h2 : ∀ z, z ≠ a → X z → V z → U z → T z → S z → R z → P z → f z = g z) : ∀ z, X z → V z → U z → T z → S z → R z → P z → f z = g z := fun z hx hv hu ht hs hr hz => by
  by_cases e : z = a
  · rw [e]; exact h1
  · exact h2 z e hx hv hu ht hs hr hz
section
variable {k : Nat} {r : List Nat} {a : Nat} {nm va q : Str}
abbrev quS (x : Str) : Bool := [PySem.Str.ofString "\"", PySem.Str.ofString "'"].any fun y => y == x
abbrev slS (x : Str) : Bool := [sSl, sGt].any fun y => y == x
theorem ne_true {b : Bool} (h : b = false) : ¬ b = true := by rw [h]; decide
theorem wB0 (h0 : ((⟨#[k]⟩ : Str) == sGt) = true) : runA (k :: r) a .before nm va q = none := by
  show (if _ then _ else _) = _
  rw [if_pos h0]
theorem wB1 (h0 : ((⟨#[k]⟩ : Str) == sGt) = false) (h1 : gapS (⟨#[k]⟩ : Str) = true) : runA (k :: r) a .before nm va q = runA r (a + 1) .before nm va q := by
  show (if _ then _ else _) = _
  rw [if_neg (ne_true h0), if_pos h1]
theorem wB2 (h0 : ((⟨#[k]⟩ : Str) == sGt) = false) (h1 : gapS (⟨#[k]⟩ : Str) = false) (h2 : ((⟨#[k]⟩ : Str) != sSl) = true) : runA (k :: r) a .before nm va q = runA r (a + 1) .name (⟨#[k]⟩ : Str) va q := by
  show (if _ then _ else _) = _
  rw [if_neg (ne_true h0), if_neg (ne_true h1), if_pos h2]
theorem wB3 (h0 : ((⟨#[k]⟩ : Str) == sGt) = false) (h1 : gapS (⟨#[k]⟩ : Str) = false) (h2 : ((⟨#[k]⟩ : Str) != sSl) = false) : runA (k :: r) a .before nm va q = runA r (a + 1) .before nm va q := by
  show (if _ then _ else _) = _
  rw [if_neg (ne_true h0), if_neg (ne_true h1), if_neg (ne_true h2)]
theorem wN0 (h0 : slS (⟨#[k]⟩ : Str) = true) : runA (k :: r) a .name nm va q = some (nm, sNil, (a : Int)) := by
  show (if _ then _ else _) = _
  rw [if_pos h0]
theorem wN1 (h0 : slS (⟨#[k]⟩ : Str) = false) (h1 : ((⟨#[k]⟩ : Str) == eqS) = true) : runA (k :: r) a .name nm va q = runA r (a + 1) .wanted nm va q := by
  show (if _ then _ else _) = _
  rw [if_neg (ne_true h0), if_pos h1]
theorem wN2 (h0 : slS (⟨#[k]⟩ : Str) = false) (h1 : ((⟨#[k]⟩ : Str) == eqS) = false) (h2 : gapS (⟨#[k]⟩ : Str) = true) : runA (k :: r) a .name nm va q = runA r (a + 1) .after nm va q := by
  show (if _ then _ else _) = _
  rw [if_neg (ne_true h0), if_neg (ne_true h1), if_pos h2]
theorem wN3 (h0 : slS (⟨#[k]⟩ : Str) = false) (h1 : ((⟨#[k]⟩ : Str) == eqS) = false) (h2 : gapS (⟨#[k]⟩ : Str) = false) : runA (k :: r) a .name nm va q = runA r (a + 1) .name (nm ++ (⟨#[k]⟩ : Str)) va q := by
  show (if _ then _ else _) = _
  rw [if_neg (ne_true h0), if_neg (ne_true h1), if_neg (ne_true h2)]
theorem wA0 (h0 : ((⟨#[k]⟩ : Str) == eqS) = true) : runA (k :: r) a .after nm va q = runA r (a + 1) .wanted nm va q := by
  show (if _ then _ else _) = _
  rw [if_pos h0]
theorem wA1 (h0 : ((⟨#[k]⟩ : Str) == eqS) = false) (h1 : gapS (⟨#[k]⟩ : Str) = true) : runA (k :: r) a .after nm va q = runA r (a + 1) .after nm va q := by
  show (if _ then _ else _) = _
  rw [if_neg (ne_true h0), if_pos h1]
theorem wA2 (h0 : ((⟨#[k]⟩ : Str) == eqS) = false) (h1 : gapS (⟨#[k]⟩ : Str) = false) : runA (k :: r) a .after nm va q = some (nm, sNil, (a : Int)) := by
  show (if _ then _ else _) = _
  rw [if_neg (ne_true h0), if_neg (ne_true h1)]
theorem wW0 (h0 : ((⟨#[k]⟩ : Str) == sGt) = true) : runA (k :: r) a .wanted nm va q = some (nm, sNil, (a : Int)) := by
  show (if _ then _ else _) = _
  rw [if_pos h0]
theorem wW1 (h0 : ((⟨#[k]⟩ : Str) == sGt) = false) (h1 : quS (⟨#[k]⟩ : Str) = true) : runA (k :: r) a .wanted nm va q = runA r (a + 1) .quoted nm va (⟨#[k]⟩ : Str) := by
  show (if _ then _ else _) = _
  rw [if_neg (ne_true h0), if_pos h1]
theorem wW2 (h0 : ((⟨#[k]⟩ : Str) == sGt) = false) (h1 : quS (⟨#[k]⟩ : Str) = false) (h2 : gapS (⟨#[k]⟩ : Str) = true) : runA (k :: r) a .wanted nm va q = runA r (a + 1) .wanted nm va q := by
  show (if _ then _ else _) = _
  rw [if_neg (ne_true h0), if_neg (ne_true h1), if_pos h2]
theorem wW3 (h0 : ((⟨#[k]⟩ : Str) == sGt) = false) (h1 : quS (⟨#[k]⟩ : Str) = false) (h2 : gapS (⟨#[k]⟩ : Str) = false) : runA (k :: r) a .wanted nm va q = runA r (a + 1) .bare nm (⟨#[k]⟩ : Str) q := by
  show (if _ then _ else _) = _
  rw [if_neg (ne_true h0), if_neg (ne_true h1), if_neg (ne_true h2)]
theorem wQ0 (h0 : ((⟨#[k]⟩ : Str) == q) = true) : runA (k :: r) a .quoted nm va q = some (nm, va, (a : Int) + 1) := by
  show (if _ then _ else _) = _
  rw [if_pos h0]
theorem wQ1 (h0 : ((⟨#[k]⟩ : Str) == q) = false) : runA (k :: r) a .quoted nm va q = runA r (a + 1) .quoted nm (va ++ (⟨#[k]⟩ : Str)) q := by
  show (if _ then _ else _) = _
  rw [if_neg (ne_true h0)]
theorem wR0 (h0 : gapS (⟨#[k]⟩ : Str) = true) : runA (k :: r) a .bare nm va q = some (nm, va, (a : Int)) := by
  show (if _ then _ else _) = _
  rw [if_pos h0]
theorem wR1 (h0 : gapS (⟨#[k]⟩ : Str) = false) (h1 : ((⟨#[k]⟩ : Str) == sGt) = true) : runA (k :: r) a .bare nm va q = some (nm, va, (a : Int)) := by
  show (if _ then _ else _) = _
  rw [if_neg (ne_true h0), if_pos h1]
theorem wR2 (h0 : gapS (⟨#[k]⟩ : Str) = false) (h1 : ((⟨#[k]⟩ : Str) == sGt) = false) : runA (k :: r) a .bare nm va q = runA r (a + 1) .bare nm (va ++ (⟨#[k]⟩ : Str)) q := by
  show (if _ then _ else _) = _
  rw [if_neg (ne_true h0), if_neg (ne_true h1)]
theorem la1 (h : nm.length ≤ a) : (nm ++ (⟨#[k]⟩ : Str)).length ≤ a + 1 := by
  rw [len_app]
  show nm.length + 1 ≤ a + 1
  omega
theorem lb1 : (⟨#[k]⟩ : Str).length ≤ a + 1 := by
  show 1 ≤ a + 1
  omega
end
/-- the walk over octets -/
def lA (bs : List UInt8) (a : Nat) (st : StA) (nm va q : Str) : Option (Str × Str × Int) := runA (((bs.map UInt8.toNat).drop a).map lowN) a st nm va q
theorem lA_end {bs : List UInt8} {a : Nat} {st : StA} {nm va q : Str} (h : bs.length ≤ a) : lA bs a st nm va q = none := by
  unfold lA
  rw [List.drop_eq_nil_of_le (by rw [List.length_map]; exact h)]
  cases st <;> rfl
theorem lA_turn {bs : List UInt8} {a : Nat} {st : StA} {nm va q : Str} (h : a < bs.length) : lA bs a st nm va q = runA (lowN (bs.getD a 0).toNat :: ((bs.map UInt8.toNat).drop (a + 1)).map lowN) a st nm va q := by
  unfold lA
  have h2 : a < (bs.map UInt8.toNat).length := by rw [List.length_map]; exact h
  rw [List.drop_eq_getElem_cons h2, List.map_cons]
  congr 2
  simp [List.getD, h]
/-- the sign of a turn, its ways joined -/
def SignPost (n : Nat) (s₁ : Shared) (v : Value) (s₂ : Shared) : Prop := ∃ t k, v = .str ⟨#[lowN n]⟩ t ∧ s₂ = { s₁ with toks := k }
theorem sign_join {prog : Program} {A : Around} {tr : Sem Value} {s : Shared} {Q : Value → Shared → Prop} {E : Value → Shared → Prop} (n : Nat) (h1 : wpAny (model prog w) A tr (SignPost n s) E s) (h2 : ∀ t' k, Q (.str ⟨#[lowN n]⟩ t') { s with toks := k }) : wpAny (model prog w) A tr Q E s :=
  wpAny_mono h1 (fun v s2 ⟨t', k, e1, e2⟩ => by subst e1; subst e2; exact h2 t' k) fun _ _ e => e
theorem sg_in {c : Nat} (h1 : 65 ≤ (c : Int)) (h2 : (c : Int) ≤ 90) : ((c : Int) + 32).toNat = lowN c := by rw [low_in (by omega) (by omega)]; omega
theorem sg_hi {c : Nat} (h2 : ¬ (c : Int) ≤ 90) : ((c : Int)).toNat = lowN c := by rw [low_out (by omega)]; omega
theorem sg_lo {c : Nat} (h2 : ¬ 65 ≤ (c : Int)) : ((c : Int)).toNat = lowN c := by rw [low_out (by omega)]; omega
theorem SignPost.intro {n m : Nat} {s : Shared} {t k : Tok} (e : m = lowN n) : SignPost n s (.str ⟨#[m]⟩ t) { s with toks := k } := ⟨t, k, by rw [e], rfl⟩
abbrev SA := Nat × Tok × (Str × Tok) × (Str × Tok) × (Str × Tok) × (Str × Tok) × Option Value × Option Value
abbrev mpA (b : Value) : SA → Str → Option Value := fun c y =>
  if y = PySem.Str.ofString "quote" then some (.str c.2.2.2.2.2.1.1 c.2.2.2.2.2.1.2) else if y = PySem.Str.ofString "value" then some (.str c.2.2.2.2.1.1 c.2.2.2.2.1.2) else if y = PySem.Str.ofString "name" then some (.str c.2.2.2.1.1 c.2.2.2.1.2) else if y = PySem.Str.ofString "state" then some (.str c.2.2.1.1 c.2.2.1.2)
  else if y = PySem.Str.ofString "at" then some (.int (c.1 : Int) c.2.1) else if y = PySem.Str.ofString "octets" then some b else if y = PySem.Str.ofString "sign" then c.2.2.2.2.2.2.1 else if y = PySem.Str.ofString "is_gap" then c.2.2.2.2.2.2.2 else none
theorem mpA_start {b : Value} {i : Nat} {x1 x2 x3 x4 : Str} {t0 t1 t2 t3 t4 : Tok} : ∀ z, (if z = PySem.Str.ofString "quote" then some (Value.str x4 t4) else if z = PySem.Str.ofString "value" then some (.str x3 t3) else if z = PySem.Str.ofString "name" then some (.str x2 t2) else if z = PySem.Str.ofString "state" then some (.str x1 t1)
  else if z = PySem.Str.ofString "at" then some (.int (i : Int) t0) else if z = PySem.Str.ofString "octets" then some b else none) = mpA b (i, t0, (x1, t1), (x2, t2), (x3, t3), (x4, t4), none, none) z := fun z => by
  have e : (if z = PySem.Str.ofString "sign" then (none : Option Value) else if z = PySem.Str.ofString "is_gap" then none else none) = none := by
    split
    · rfl
    · split <;> rfl
  dsimp only [mpA]
  rw [e]
def okA (bs : List UInt8) (R : Option (Str × Str × Int)) (c : SA) : Prop := ∃ st, c.2.2.1.1 = stN st ∧ lA bs c.1 st c.2.2.2.1.1 c.2.2.2.2.1.1 c.2.2.2.2.2.1.1 = R ∧ c.2.2.2.1.1.length ≤ c.1 ∧ c.2.2.2.2.1.1.length ≤ c.1
theorem linesF15_1 : True := by
  k_with "exec While Compare cons nil" => refine Stop.out ?_
  k_with "eval Call" => (k_here; (with_reducible show wpAny _ _ (eval (PySem.Expr.Call _ [PySem.Expr.IfExp _ _ _ _] _ _) _) _ _ _); (fail_if_success (with_reducible show wpAny _ _ _ (SignPost _ _) _ _)); refine Stop.out ?_)
  trivial
theorem law_attribute_cl (bs : List UInt8) (t : Tok) (i : Nat) (ti : Tok) : Cl w mean mg mb 2 172 [.bytes bs.toArray t, .int (i : Int) ti] (fun h => bs.length ≤ 1000) (fun g v h' => gaR (lA bs i .before sNil sNil sNil) g v h') := by
  refine cl_of (binds := [(PySem.Str.ofString "octets", _), (PySem.Str.ofString "at", _)]) (by k_is) (by k_is) (fun s => BindsTo.of_eq rfl) (locs rfl) (by decide) rfl rfl rfl ?_
  intro dp un gd outer A₀ base g L h₁ s B' F' X' N' T' hdp hun hD hpre hs
  subst hs
  (try dsimp only [kstB, List.reverse, List.reverseAux] at F')
  (try dsimp only)
  k_fold
  have hbl : bs.length ≤ 1000 := hpre
  k_steps
  rename Fr _ _ _ _ => F1
  rename News _ _ _ _ => N1
  unfold Stop
  refine my_while (σ := SA) (fun _ => []) (mpA (.bytes bs.toArray t)) (okA bs (lA bs i .before sNil sNil sNil)) (fun c => bs.length - c.1) (i, ?t1, (PySem.Str.ofString "before", ?t2), (sNil, ?t3), (sNil, ?t4), (sNil, ?t5), none, none) F1 N1 (fun p hp => nomatch hp) ?hm ?hp ?turn ?hE
  case hm => exact mpA_start
  case hE => with_unfolding_all passes_own
  case hp => exact ⟨.before, rfl, rfl, Nat.zero_le _, Nat.zero_le _⟩
  case turn =>
    rintro ⟨a, ta, ⟨sx, tsx⟩, ⟨nm, tn⟩, ⟨va, tv⟩, ⟨q, tq⟩, sg, ig⟩ h tk ⟨st, hst, hrun, hl1, hl2⟩ F N
    dsimp only at hst hrun hl1 hl2 F
    dsimp only
    k_fold
    subst hst
    k_steps
    · unfold Stop
      refine sign_join (bs.getD a 0).toNat ?sg ?nx
      case sg =>
        have hu := (bs.getD a 0).toNat_lt
        k_steps
        · exact SignPost.intro (sg_in (by assumption) (by assumption))
        · rename (¬ _) => hh
          have hh' : ¬ ((bs.getD a 0).toNat : Int) ≤ 90 := hh
          refine chr_of_range (by omega) (by show ((bs.getD a 0).toNat : Int) ≤ 1114111; omega) ?_
          exact SignPost.intro (sg_hi hh')
        · exact SignPost.intro (sg_lo (by assumption))
      case nx =>
        intro t9 k9
        have hlt : a < bs.length := by
          rename ((_ : Int) < _) => hlt
          simp only [List.size_toArray] at hlt
          omega
        rw [lA_turn hlt] at hrun
        have hnx : ∀ st nm va q, runA (((bs.map UInt8.toNat).drop (a + 1)).map lowN) (a + 1) st nm va q = lA bs (a + 1) st nm va q := fun _ _ _ _ => rfl
        generalize lowN (bs.getD a 0).toNat = k at hrun ⊢
        generalize (((bs.map UInt8.toNat).drop (a + 1)).map lowN) = r at hrun hnx
        replace F : Fr g L h (fun y => if y = PySem.Str.ofString "quote" then some (Value.str q tq) else if y = PySem.Str.ofString "value" then some (.str va tv) else if y = PySem.Str.ofString "name" then some (.str nm tn) else if y = PySem.Str.ofString "state" then some (.str (stN st) tsx)
          else if y = PySem.Str.ofString "at" then some (.int (a : Int) ta) else if y = PySem.Str.ofString "octets" then some (.bytes bs.toArray t) else if y = PySem.Str.ofString "sign" then sg else if y = PySem.Str.ofString "is_gap" then ig else none) := F
        cases st
        case before =>
          dsimp only [stN] at F
          dsimp only
          k_steps
          all_goals (try dsimp only [WPost])
          all_goals first
            | (((try dsimp only [MyPost, WPost, XPost]); (try k_unfold); (try dsimp only [MyPost, WPost, XPost]); (try k_unfold); (try dsimp only [MyPost, WPost, XPost]); (try k_unfold); (try dsimp only); refine Done.intro (by assumption) ?_); first | (rw [← hrun, wB0 (by with_reducible assumption)]; exact gaR_none))
            | (((try dsimp only); (rename Fr _ _ _ _ => Fe); (rename News _ _ _ _ => Ne); refine WEnd.intro ((_ + 1, _, (_, _), (_, _), (_, _), (_, _), _, _)) Fe Ne (by (try dsimp only); first | exact List.forall_mem_nil _ | with_unfolding_all ((try simp only [List.nil_append, List.cons_append]); k_allIn)) (by refine splitA (PySem.Str.ofString "at") (by first | rfl | exact int_val (by omega)) ?_; refine splitB (PySem.Str.ofString "state") (by first | rfl | exact int_val (by omega)) ?_; refine splitC (PySem.Str.ofString "name") (by first | rfl | exact int_val (by omega)) ?_; refine splitD (PySem.Str.ofString "value") (by first | rfl | exact int_val (by omega)) ?_; refine splitE (PySem.Str.ofString "quote") (by first | rfl | exact int_val (by omega)) ?_; refine splitF (PySem.Str.ofString "sign") (by first | rfl | exact int_val (by omega)) ?_; refine splitG (PySem.Str.ofString "is_gap") (by first | rfl | exact int_val (by omega)) ?_; intro z hz0 hz1 hz2 hz3 hz4 hz5 hz6 hz7; (try simp only [if_neg hz0, if_neg hz1, if_neg hz2, if_neg hz3, if_neg hz4, if_neg hz5, if_neg hz6]); (try simp only [if_neg hz7]); (try rfl)) ?_); first | (refine ⟨⟨.before, rfl, (hnx _ _ _ _).symm.trans ((wB1 (by with_reducible assumption) (by with_reducible assumption)).symm.trans hrun), ?_, ?_⟩, ?_⟩; (focus (first | exact Nat.le_succ_of_le (by with_reducible assumption) | exact la1 (by with_reducible assumption) | exact lb1)); (focus (first | exact Nat.le_succ_of_le (by with_reducible assumption) | exact la1 (by with_reducible assumption) | exact lb1)); (dsimp only; omega)) | (refine ⟨⟨.name, rfl, (hnx _ _ _ _).symm.trans ((wB2 (by with_reducible assumption) (by with_reducible assumption) (by with_reducible assumption)).symm.trans hrun), ?_, ?_⟩, ?_⟩; (focus (first | exact Nat.le_succ_of_le (by with_reducible assumption) | exact la1 (by with_reducible assumption) | exact lb1)); (focus (first | exact Nat.le_succ_of_le (by with_reducible assumption) | exact la1 (by with_reducible assumption) | exact lb1)); (dsimp only; omega)) | (refine ⟨⟨.before, rfl, (hnx _ _ _ _).symm.trans ((wB3 (by with_reducible assumption) (by with_reducible assumption) (by with_reducible assumption)).symm.trans hrun), ?_, ?_⟩, ?_⟩; (focus (first | exact Nat.le_succ_of_le (by with_reducible assumption) | exact la1 (by with_reducible assumption) | exact lb1)); (focus (first | exact Nat.le_succ_of_le (by with_reducible assumption) | exact la1 (by with_reducible assumption) | exact lb1)); (dsimp only; omega)))
            | trace_state
        case name =>
          dsimp only [stN] at F
          dsimp only
          k_steps
          all_goals (try dsimp only [WPost])
          all_goals first
            | (((try dsimp only [MyPost, WPost, XPost]); (try k_unfold); (try dsimp only [MyPost, WPost, XPost]); (try k_unfold); (try dsimp only [MyPost, WPost, XPost]); (try k_unfold); (try dsimp only); refine Done.intro (by assumption) ?_); first | (rw [← hrun, wN0 (by with_reducible assumption)]; (rename News _ _ _ _ => N1); with_unfolding_all exact gaR_some N1))
            | (((try dsimp only); (rename Fr _ _ _ _ => Fe); (rename News _ _ _ _ => Ne); refine WEnd.intro ((_ + 1, _, (_, _), (_, _), (_, _), (_, _), _, _)) Fe Ne (by (try dsimp only); first | exact List.forall_mem_nil _ | with_unfolding_all ((try simp only [List.nil_append, List.cons_append]); k_allIn)) (by refine splitA (PySem.Str.ofString "at") (by first | rfl | exact int_val (by omega)) ?_; refine splitB (PySem.Str.ofString "state") (by first | rfl | exact int_val (by omega)) ?_; refine splitC (PySem.Str.ofString "name") (by first | rfl | exact int_val (by omega)) ?_; refine splitD (PySem.Str.ofString "value") (by first | rfl | exact int_val (by omega)) ?_; refine splitE (PySem.Str.ofString "quote") (by first | rfl | exact int_val (by omega)) ?_; refine splitF (PySem.Str.ofString "sign") (by first | rfl | exact int_val (by omega)) ?_; refine splitG (PySem.Str.ofString "is_gap") (by first | rfl | exact int_val (by omega)) ?_; intro z hz0 hz1 hz2 hz3 hz4 hz5 hz6 hz7; (try simp only [if_neg hz0, if_neg hz1, if_neg hz2, if_neg hz3, if_neg hz4, if_neg hz5, if_neg hz6]); (try simp only [if_neg hz7]); (try rfl)) ?_); first | (refine ⟨⟨.wanted, rfl, (hnx _ _ _ _).symm.trans ((wN1 (by with_reducible assumption) (by with_reducible assumption)).symm.trans hrun), ?_, ?_⟩, ?_⟩; (focus (first | exact Nat.le_succ_of_le (by with_reducible assumption) | exact la1 (by with_reducible assumption) | exact lb1)); (focus (first | exact Nat.le_succ_of_le (by with_reducible assumption) | exact la1 (by with_reducible assumption) | exact lb1)); (dsimp only; omega)) | (refine ⟨⟨.after, rfl, (hnx _ _ _ _).symm.trans ((wN2 (by with_reducible assumption) (by with_reducible assumption) (by with_reducible assumption)).symm.trans hrun), ?_, ?_⟩, ?_⟩; (focus (first | exact Nat.le_succ_of_le (by with_reducible assumption) | exact la1 (by with_reducible assumption) | exact lb1)); (focus (first | exact Nat.le_succ_of_le (by with_reducible assumption) | exact la1 (by with_reducible assumption) | exact lb1)); (dsimp only; omega)) | (refine ⟨⟨.name, rfl, (hnx _ _ _ _).symm.trans ((wN3 (by with_reducible assumption) (by with_reducible assumption) (by with_reducible assumption)).symm.trans hrun), ?_, ?_⟩, ?_⟩; (focus (first | exact Nat.le_succ_of_le (by with_reducible assumption) | exact la1 (by with_reducible assumption) | exact lb1)); (focus (first | exact Nat.le_succ_of_le (by with_reducible assumption) | exact la1 (by with_reducible assumption) | exact lb1)); (dsimp only; omega)))
            | trace_state
        case after =>
          dsimp only [stN] at F
          dsimp only
          k_steps
          all_goals (try dsimp only [WPost])
          all_goals first
            | (((try dsimp only [MyPost, WPost, XPost]); (try k_unfold); (try dsimp only [MyPost, WPost, XPost]); (try k_unfold); (try dsimp only [MyPost, WPost, XPost]); (try k_unfold); (try dsimp only); refine Done.intro (by assumption) ?_); first | (rw [← hrun, wA2 (by with_reducible assumption) (by with_reducible assumption)]; (rename News _ _ _ _ => N1); with_unfolding_all exact gaR_some N1))
            | (((try dsimp only); (rename Fr _ _ _ _ => Fe); (rename News _ _ _ _ => Ne); refine WEnd.intro ((_ + 1, _, (_, _), (_, _), (_, _), (_, _), _, _)) Fe Ne (by (try dsimp only); first | exact List.forall_mem_nil _ | with_unfolding_all ((try simp only [List.nil_append, List.cons_append]); k_allIn)) (by refine splitA (PySem.Str.ofString "at") (by first | rfl | exact int_val (by omega)) ?_; refine splitB (PySem.Str.ofString "state") (by first | rfl | exact int_val (by omega)) ?_; refine splitC (PySem.Str.ofString "name") (by first | rfl | exact int_val (by omega)) ?_; refine splitD (PySem.Str.ofString "value") (by first | rfl | exact int_val (by omega)) ?_; refine splitE (PySem.Str.ofString "quote") (by first | rfl | exact int_val (by omega)) ?_; refine splitF (PySem.Str.ofString "sign") (by first | rfl | exact int_val (by omega)) ?_; refine splitG (PySem.Str.ofString "is_gap") (by first | rfl | exact int_val (by omega)) ?_; intro z hz0 hz1 hz2 hz3 hz4 hz5 hz6 hz7; (try simp only [if_neg hz0, if_neg hz1, if_neg hz2, if_neg hz3, if_neg hz4, if_neg hz5, if_neg hz6]); (try simp only [if_neg hz7]); (try rfl)) ?_); first | (refine ⟨⟨.wanted, rfl, (hnx _ _ _ _).symm.trans ((wA0 (by with_reducible assumption)).symm.trans hrun), ?_, ?_⟩, ?_⟩; (focus (first | exact Nat.le_succ_of_le (by with_reducible assumption) | exact la1 (by with_reducible assumption) | exact lb1)); (focus (first | exact Nat.le_succ_of_le (by with_reducible assumption) | exact la1 (by with_reducible assumption) | exact lb1)); (dsimp only; omega)) | (refine ⟨⟨.after, rfl, (hnx _ _ _ _).symm.trans ((wA1 (by with_reducible assumption) (by with_reducible assumption)).symm.trans hrun), ?_, ?_⟩, ?_⟩; (focus (first | exact Nat.le_succ_of_le (by with_reducible assumption) | exact la1 (by with_reducible assumption) | exact lb1)); (focus (first | exact Nat.le_succ_of_le (by with_reducible assumption) | exact la1 (by with_reducible assumption) | exact lb1)); (dsimp only; omega)))
            | trace_state
        case wanted =>
          dsimp only [stN] at F
          dsimp only
          k_steps
          all_goals (try dsimp only [WPost])
          all_goals first
            | (((try dsimp only [MyPost, WPost, XPost]); (try k_unfold); (try dsimp only [MyPost, WPost, XPost]); (try k_unfold); (try dsimp only [MyPost, WPost, XPost]); (try k_unfold); (try dsimp only); refine Done.intro (by assumption) ?_); first | (rw [← hrun, wW0 (by with_reducible assumption)]; (rename News _ _ _ _ => N1); with_unfolding_all exact gaR_some N1))
            | (((try dsimp only); (rename Fr _ _ _ _ => Fe); (rename News _ _ _ _ => Ne); refine WEnd.intro ((_ + 1, _, (_, _), (_, _), (_, _), (_, _), _, _)) Fe Ne (by (try dsimp only); first | exact List.forall_mem_nil _ | with_unfolding_all ((try simp only [List.nil_append, List.cons_append]); k_allIn)) (by refine splitA (PySem.Str.ofString "at") (by first | rfl | exact int_val (by omega)) ?_; refine splitB (PySem.Str.ofString "state") (by first | rfl | exact int_val (by omega)) ?_; refine splitC (PySem.Str.ofString "name") (by first | rfl | exact int_val (by omega)) ?_; refine splitD (PySem.Str.ofString "value") (by first | rfl | exact int_val (by omega)) ?_; refine splitE (PySem.Str.ofString "quote") (by first | rfl | exact int_val (by omega)) ?_; refine splitF (PySem.Str.ofString "sign") (by first | rfl | exact int_val (by omega)) ?_; refine splitG (PySem.Str.ofString "is_gap") (by first | rfl | exact int_val (by omega)) ?_; intro z hz0 hz1 hz2 hz3 hz4 hz5 hz6 hz7; (try simp only [if_neg hz0, if_neg hz1, if_neg hz2, if_neg hz3, if_neg hz4, if_neg hz5, if_neg hz6]); (try simp only [if_neg hz7]); (try rfl)) ?_); first | (refine ⟨⟨.quoted, rfl, (hnx _ _ _ _).symm.trans ((wW1 (by with_reducible assumption) (by with_reducible assumption)).symm.trans hrun), ?_, ?_⟩, ?_⟩; (focus (first | exact Nat.le_succ_of_le (by with_reducible assumption) | exact la1 (by with_reducible assumption) | exact lb1)); (focus (first | exact Nat.le_succ_of_le (by with_reducible assumption) | exact la1 (by with_reducible assumption) | exact lb1)); (dsimp only; omega)) | (refine ⟨⟨.wanted, rfl, (hnx _ _ _ _).symm.trans ((wW2 (by with_reducible assumption) (by with_reducible assumption) (by with_reducible assumption)).symm.trans hrun), ?_, ?_⟩, ?_⟩; (focus (first | exact Nat.le_succ_of_le (by with_reducible assumption) | exact la1 (by with_reducible assumption) | exact lb1)); (focus (first | exact Nat.le_succ_of_le (by with_reducible assumption) | exact la1 (by with_reducible assumption) | exact lb1)); (dsimp only; omega)) | (refine ⟨⟨.bare, rfl, (hnx _ _ _ _).symm.trans ((wW3 (by with_reducible assumption) (by with_reducible assumption) (by with_reducible assumption)).symm.trans hrun), ?_, ?_⟩, ?_⟩; (focus (first | exact Nat.le_succ_of_le (by with_reducible assumption) | exact la1 (by with_reducible assumption) | exact lb1)); (focus (first | exact Nat.le_succ_of_le (by with_reducible assumption) | exact la1 (by with_reducible assumption) | exact lb1)); (dsimp only; omega)))
            | trace_state
        case quoted =>
          dsimp only [stN] at F
          dsimp only
          k_steps
          all_goals (try dsimp only [WPost])
          all_goals first
            | (((try dsimp only [MyPost, WPost, XPost]); (try k_unfold); (try dsimp only [MyPost, WPost, XPost]); (try k_unfold); (try dsimp only [MyPost, WPost, XPost]); (try k_unfold); (try dsimp only); refine Done.intro (by assumption) ?_); first | (rw [← hrun, wQ0 (by with_reducible assumption)]; (rename News _ _ _ _ => N1); with_unfolding_all exact gaR_some N1))
            | (((try dsimp only); (rename Fr _ _ _ _ => Fe); (rename News _ _ _ _ => Ne); refine WEnd.intro ((_ + 1, _, (_, _), (_, _), (_, _), (_, _), _, _)) Fe Ne (by (try dsimp only); first | exact List.forall_mem_nil _ | with_unfolding_all ((try simp only [List.nil_append, List.cons_append]); k_allIn)) (by refine splitA (PySem.Str.ofString "at") (by first | rfl | exact int_val (by omega)) ?_; refine splitB (PySem.Str.ofString "state") (by first | rfl | exact int_val (by omega)) ?_; refine splitC (PySem.Str.ofString "name") (by first | rfl | exact int_val (by omega)) ?_; refine splitD (PySem.Str.ofString "value") (by first | rfl | exact int_val (by omega)) ?_; refine splitE (PySem.Str.ofString "quote") (by first | rfl | exact int_val (by omega)) ?_; refine splitF (PySem.Str.ofString "sign") (by first | rfl | exact int_val (by omega)) ?_; refine splitG (PySem.Str.ofString "is_gap") (by first | rfl | exact int_val (by omega)) ?_; intro z hz0 hz1 hz2 hz3 hz4 hz5 hz6 hz7; (try simp only [if_neg hz0, if_neg hz1, if_neg hz2, if_neg hz3, if_neg hz4, if_neg hz5, if_neg hz6]); (try simp only [if_neg hz7]); (try rfl)) ?_); first | (refine ⟨⟨.quoted, rfl, (hnx _ _ _ _).symm.trans ((wQ1 (by with_reducible assumption)).symm.trans hrun), ?_, ?_⟩, ?_⟩; (focus (first | exact Nat.le_succ_of_le (by with_reducible assumption) | exact la1 (by with_reducible assumption) | exact lb1)); (focus (first | exact Nat.le_succ_of_le (by with_reducible assumption) | exact la1 (by with_reducible assumption) | exact lb1)); (dsimp only; omega)))
            | trace_state
        case bare =>
          dsimp only [stN] at F
          dsimp only
          k_steps
          all_goals (try dsimp only [WPost])
          all_goals first
            | (((try dsimp only [MyPost, WPost, XPost]); (try k_unfold); (try dsimp only [MyPost, WPost, XPost]); (try k_unfold); (try dsimp only [MyPost, WPost, XPost]); (try k_unfold); (try dsimp only); refine Done.intro (by assumption) ?_); first | (rw [← hrun, wR0 (by with_reducible assumption)]; (rename News _ _ _ _ => N1); with_unfolding_all exact gaR_some N1) | (rw [← hrun, wR1 (by with_reducible assumption) (by with_reducible assumption)]; (rename News _ _ _ _ => N1); with_unfolding_all exact gaR_some N1))
            | (((try dsimp only); (rename Fr _ _ _ _ => Fe); (rename News _ _ _ _ => Ne); refine WEnd.intro ((_ + 1, _, (_, _), (_, _), (_, _), (_, _), _, _)) Fe Ne (by (try dsimp only); first | exact List.forall_mem_nil _ | with_unfolding_all ((try simp only [List.nil_append, List.cons_append]); k_allIn)) (by refine splitA (PySem.Str.ofString "at") (by first | rfl | exact int_val (by omega)) ?_; refine splitB (PySem.Str.ofString "state") (by first | rfl | exact int_val (by omega)) ?_; refine splitC (PySem.Str.ofString "name") (by first | rfl | exact int_val (by omega)) ?_; refine splitD (PySem.Str.ofString "value") (by first | rfl | exact int_val (by omega)) ?_; refine splitE (PySem.Str.ofString "quote") (by first | rfl | exact int_val (by omega)) ?_; refine splitF (PySem.Str.ofString "sign") (by first | rfl | exact int_val (by omega)) ?_; refine splitG (PySem.Str.ofString "is_gap") (by first | rfl | exact int_val (by omega)) ?_; intro z hz0 hz1 hz2 hz3 hz4 hz5 hz6 hz7; (try simp only [if_neg hz0, if_neg hz1, if_neg hz2, if_neg hz3, if_neg hz4, if_neg hz5, if_neg hz6]); (try simp only [if_neg hz7]); (try rfl)) ?_); first | (refine ⟨⟨.bare, rfl, (hnx _ _ _ _).symm.trans ((wR2 (by with_reducible assumption) (by with_reducible assumption)).symm.trans hrun), ?_, ?_⟩, ?_⟩; (focus (first | exact Nat.le_succ_of_le (by with_reducible assumption) | exact la1 (by with_reducible assumption) | exact lb1)); (focus (first | exact Nat.le_succ_of_le (by with_reducible assumption) | exact la1 (by with_reducible assumption) | exact lb1)); (dsimp only; omega)))
            | trace_state
    · ((try dsimp only [MyPost, WPost, XPost]); (try k_unfold); (try dsimp only [MyPost, WPost, XPost]); (try k_unfold); (try dsimp only [MyPost, WPost, XPost]); (try k_unfold); (try dsimp only); refine Done.intro (by assumption) ?_)
      rename (¬ _) => hlt
      rw [← hrun, lA_end (by simp only [List.size_toArray] at hlt; omega)]
      exact gaR_none
end Mine
end
section
open PySem PySem.W PyProof.Rows PySem.Calls PyProof.Rows.LCg
set_option maxRecDepth 100000
set_option maxHeartbeats 8000000
namespace Mine
theorem sectP2 : True := by
  w_top off
  k_with_none
  trivial
def csL : List Nat := [99, 104, 97, 114, 115, 101, 116]
theorem cs_ll : csS = ⟨csL.toArray⟩ := by decide +kernel
theorem hit_iff (y : Str) (k : Nat) : hitB y k = true ↔ ((ll y).drop k).take 7 = csL := by
  unfold hitB
  have e : ((k : Int) + 7) = ((k + 7 : Nat) : Int) := by omega
  rw [beq_iff_eq, e, txt_slice, cs_ll]
  have e2 : cutL y.cps.toList k (k + 7) = ((ll y).drop k).take 7 := by unfold cutL; rw [Nat.add_sub_cancel_left]
  rw [e2]
  exact ⟨fun h => by injection h with h; injection h, fun h => by rw [h]⟩
theorem hit_get {y : Str} {k j : Nat} (h : hitB y k = true) (hj : j < 7) : (ll y)[k + j]? = csL[j]? := by
  have h1 := (hit_iff y k).mp h
  rw [← h1, List.getElem?_take_of_lt hj, List.getElem?_drop]
theorem hit_len {y : Str} {k : Nat} (h : hitB y k = true) : k + 7 ≤ y.length := by
  have h1 := hit_get h (show 6 < 7 by decide)
  have h2 : csL[6]? = some 116 := rfl
  rw [h2] at h1
  have h3 := (List.getElem?_eq_some_iff.mp h1).1
  have h4 : (ll y).length = y.length := rfl
  omega
theorem places_pair (y : Str) (n : Nat) : (placesL y n).Pairwise (· < ·) := by
  unfold placesL
  refine List.Pairwise.map _ (fun a b h => ?_) ((List.pairwise_lt_range (n := n)).filter _)
  omega
theorem places_of {y : Str} {k : Nat} (h : hitB y k = true) : (k : Int) ∈ placesL y y.length := by
  unfold placesL
  refine List.mem_map.mpr ⟨k, List.mem_filter.mpr ⟨List.mem_range.mpr ?_, h⟩, rfl⟩
  have := hit_len h
  omega
theorem places_before {L : List Int} (hp : L.Pairwise (· < ·)) {i : Nat} {p q : Int} (h1 : L[i]? = some p) (h2 : q ∈ L) (h3 : q < p) : ∃ j, j < i ∧ L[j]? = some q := by
  obtain ⟨j, hj⟩ := List.getElem?_of_mem h2
  refine ⟨j, Nat.lt_of_not_le fun hle => ?_, hj⟩
  obtain ⟨hi, ei⟩ := List.getElem?_eq_some_iff.mp h1
  obtain ⟨hj', ej⟩ := List.getElem?_eq_some_iff.mp hj
  rcases Nat.lt_or_eq_of_le hle with hlt | heq
  · have := List.pairwise_iff_getElem.mp hp i j hi hj' hlt
    rw [ei, ej] at this; omega
  · subst heq; rw [h1] at hj; have := Option.some.inj hj; omega
def FromC (tb : List (Str × Str)) (y : Str) (a : Nat) (r : Option Str) : Prop :=
  (∃ k, a ≤ k ∧ hitB y k = true ∧ eqB y k = true ∧ (∀ j, a ≤ j → j < k → hitB y j = true → eqB y j = false) ∧ r = toldV tb (valS y k)) ∨ ((∀ k, a ≤ k → hitB y k = true → eqB y k = false) ∧ r = none)
theorem lawC_from {tb : List (Str × Str)} {y : Str} {r : Option Str} (h : LawC tb y r) : FromC tb y 0 r := by
  rcases h with ⟨i, p, hp, hn, he, hr⟩ | ⟨hn, hr⟩
  · obtain ⟨k, hk, _, hh⟩ := places_mem hp
    have : k = p := by omega
    subst this
    refine .inl ⟨k, Nat.zero_le _, hh, he, fun j _ hj hjh => ?_, hr⟩
    obtain ⟨i', hi', hj'⟩ := places_before (places_pair y _) hp (places_of hjh) (by omega)
    exact hn i' j hi' hj'
  · refine .inr ⟨fun k _ hk => ?_, hr⟩
    obtain ⟨i, hi⟩ := List.getElem?_of_mem (places_of hk)
    exact hn i k (List.getElem?_eq_some_iff.mp hi).1 hi
theorem skip_mem {p : Nat → Bool} {l : List Nat} {a k c : Nat} (h1 : a ≤ k) (h2 : k < skipF p l a) (h3 : l[k]? = some c) : p c = true := by
  unfold skipF at h2
  have h := PyProof.Rows.takeWhile_all p 0 (l.drop a) (k - a) (by omega)
  have e : (l.drop a).getD (k - a) 0 = c := by
    rw [List.getD_eq_getElem?_getD, List.getElem?_drop, show a + (k - a) = k by omega, h3]; rfl
  rw [e] at h; exact h
theorem cs_inner {j : Nat} (h0 : 0 < j) (h : j < 7) : csL[j]? ≠ some 99 := by
  have : ∀ j, j < 7 → 0 < j → csL[j]? ≠ some 99 := by decide
  exact this j h h0
theorem no_hit {y : Str} {a k : Nat} (ha : hitB y a = true) (h1 : a < k) (h2 : k < skipF spN (ll y) (a + 7)) (hk : hitB y k = true) : False := by
  have hc : (ll y)[k]? = some 99 := by
    have := hit_get hk (show 0 < 7 by decide)
    rw [Nat.add_zero] at this; exact this
  by_cases h : k < a + 7
  · have := hit_get ha (show k - a < 7 by omega)
    rw [show a + (k - a) = k by omega, hc] at this
    exact cs_inner (by omega) (by omega) this.symm
  · have := skip_mem (by omega) h2 hc
    exact absurd this (by decide)
theorem slice_eq1 (y : Str) (b : Nat) : (Txt.slice y (some (b : Int)) (some ((b : Int) + 1)) == sEq) = true ↔ (ll y)[b]? = some 61 := by
  have e : ((b : Int) + 1) = ((b + 1 : Nat) : Int) := by omega
  have e3 : sEq = ⟨[61].toArray⟩ := by decide +kernel
  rw [beq_iff_eq, e, txt_slice, e3]
  have e2 : cutL y.cps.toList b (b + 1) = ((ll y).drop b).take 1 := by unfold cutL; rw [Nat.add_sub_cancel_left]
  rw [e2, ← StrLaws.take1_drop, beq_iff_eq]
  exact ⟨fun h => by injection h with h; injection h, fun h => by rw [h]⟩
theorem take1_get {l : List Nat} {c : Nat} : l.take 1 = [c] ↔ l[0]? = some c := by
  cases l with
  | nil => simp
  | cons a r => simp
theorem quote_iff (V : Str) : ([PySem.Str.ofString "\"", PySem.Str.ofString "'"].any fun x => x == Txt.slice V none (some 1)) = true ↔ ((ll V)[0]? = some 34 ∨ (ll V)[0]? = some 39) := by
  have h := slice_to1 V
  simp only [List.any_cons, List.any_nil, Bool.or_false, Bool.or_eq_true, beq_iff_eq, str_quote, str_apos]
  rw [← take1_get, ← take1_get, ← h]
  constructor
  · rintro (e | e)
    · exact .inl (by rw [← e])
    · exact .inr (by rw [← e])
  · rintro (e | e)
    · exact .inl (str_of_ll (by rw [e]))
    · exact .inr (str_of_ll (by rw [e]))
theorem tw_all_len {c : Nat} : ∀ {l : List Nat}, c ∉ l → (l.takeWhile (· != c)).length = l.length := fun h => by rw [take_all h]
theorem tw_mem_len {c : Nat} : ∀ {l : List Nat}, c ∈ l → (l.takeWhile (· != c)).length < l.length
  | [], h => by cases h
  | a :: r, h => by
    rw [List.takeWhile_cons]
    by_cases e : a = c
    · subst e; simp
    · rw [if_pos (by simpa using e), List.length_cons, List.length_cons]
      have h2 : c ∈ r := by
        rcases List.mem_cons.mp h with h | h
        · exact absurd h.symm e
        · exact h
      have := tw_mem_len h2
      omega
theorem told_same {tb : List (Str × Str)} (henc : ∀ x, encE x = nameT tb x) {y V : Str} {c : Nat} (hV : ll V = (ll y).drop c) : toldE y c = toldV tb V := by
  have h0 : (ll V)[0]? = (ll y)[c]? := by rw [hV, List.getElem?_drop, Nat.add_zero]
  by_cases hq : ([PySem.Str.ofString "\"", PySem.Str.ofString "'"].any fun x => x == Txt.slice V none (some 1)) = true
  · have hq' := (quote_iff V).mp hq
    rw [h0] at hq'
    obtain ⟨q, hyq, hqq⟩ : ∃ q, (ll y)[c]? = some q ∧ (q = 34 ∨ q = 39) := by
      rcases hq' with h | h
      · exact ⟨34, h, .inl rfl⟩
      · exact ⟨39, h, .inr rfl⟩
    have hc : c < y.length := (List.getElem?_eq_some_iff.mp hyq).1
    have hR : ll (Txt.slice V (some 1) none) = (ll y).drop (c + 1) := by rw [slice_from1, hV, List.drop_drop]
    have hitem : Txt.item V 0 = ⟨#[q]⟩ := by
      have hVl : 0 < V.length := by
        have h1 : (ll V)[0]? = some q := by rw [h0, hyq]
        exact (List.getElem?_eq_some_iff.mp h1).1
      obtain ⟨n, h1, h2⟩ := item_at (x := V) (i := 0) hVl
      have h3 : (ll V)[0]? = some n := h1
      rw [h0, hyq] at h3
      have h4 := Option.some.inj h3
      subst h4
      exact h2
    unfold toldV
    rw [if_pos hq, hitem]
    have hgd : y.cps.toList.getD c 0 = q := getD_of hyq
    have hlen : ((ll y).drop (c + 1)).length = y.length - (c + 1) := by rw [List.length_drop]; rfl
    rcases split_one (Txt.slice V (some 1) none) q with ⟨hno, hs⟩ | ⟨n, m, r, hs, hn, hin⟩
    · rw [hs]
      rw [hR] at hno
      refine told_a hc hgd hqq rfl ?_
      unfold skipF
      have := tw_all_len hno
      show y.length ≤ c + 1 + (((ll y).drop (c + 1)).takeWhile (fun n => n != q)).length
      rw [this, hlen]; omega
    · rw [hs]
      rw [hR] at hn hin
      show toldE y c = nameT tb n
      have hlt : ¬ y.length ≤ skipF (fun n => n != q) y.cps.toList (c + 1) := by
        unfold skipF
        have := tw_mem_len hin
        show ¬ y.length ≤ c + 1 + (((ll y).drop (c + 1)).takeWhile (fun n => n != q)).length
        omega
      unfold toldE
      dsimp only
      rw [if_pos ⟨hc, by rw [hgd]; exact hqq⟩, hgd, if_neg hlt, henc]
      refine congrArg (nameT tb) (str_of_ll ?_)
      rw [hn, ll_mk, cut_skip]
  · have hnq : ¬ (c < y.length ∧ (y.cps.toList.getD c 0 = 34 ∨ y.cps.toList.getD c 0 = 39)) := by
      rintro ⟨hc, h⟩
      refine hq ((quote_iff V).mpr ?_)
      rw [h0]
      have hc' : c < y.cps.toList.length := hc
      have e : y.cps.toList[c]? = some (y.cps.toList.getD c 0) := by
        rw [List.getD_eq_getElem?_getD, List.getElem?_eq_getElem hc']; rfl
      rcases h with h | h
      · exact .inl (by rw [h] at e; exact e)
      · exact .inr (by rw [h] at e; exact e)
    unfold toldV
    rw [if_neg hq]
    unfold toldE
    dsimp only
    rw [if_neg hnq, henc]
    refine congrArg (nameT tb) (str_of_ll ?_)
    rw [ll_mk, cut_list, hV, cut_skip]
theorem cont_from {tb : List (Str × Str)} (henc : ∀ x, encE x = nameT tb x) {y : Str} {a : Nat} {r : Option Str} (h : ContR y a r) : ∀ r', FromC tb y a r' → r = r' := by
  induction h with
  | stop h1 =>
    rintro r' (⟨k, hk, hh, _⟩ | ⟨_, rfl⟩)
    · have := hit_len hh; omega
    · rfl
  | @next a r h1 h2 h ih =>
    have hno : hitB y a = false := by
      unfold hitB
      rw [← Bool.not_eq_true']
      exact h2
    rintro r' (⟨k, hk, hh, he, hb, hr⟩ | ⟨hn, hr⟩)
    · refine ih r' (.inl ⟨k, ?_, hh, he, fun j hj => hb j (by omega), hr⟩)
      rcases Nat.lt_or_eq_of_le hk with h | h
      · exact h
      · subst h; rw [hno] at hh; cases hh
    · exact ih r' (.inr ⟨fun k hk => hn k (by omega), hr⟩)
  | @skip a b r h1 h2 h3 h4 h ih =>
    have ha : hitB y a = true := by
      unfold hitB
      rw [← Bool.not_eq_false]
      intro hc
      have : (Txt.slice y (some (a : Int)) (some ((a : Int) + 7)) != sCharset) = true := by
        show (!(Txt.slice y (some (a : Int)) (some ((a : Int) + 7)) == csS)) = true
        rw [hc]; rfl
      rw [this] at h2; cases h2
    have he0 : eqB y a = false := by
      rw [Bool.eq_false_iff]
      intro hc
      have := (eqB_iff y a).mp hc
      rw [show skipF spN (ll y) (a + 7) = b from h3] at this
      rw [(slice_eq1 y b).mpr this] at h4; cases h4
    have hab : a ≤ b := by
      have := skipF_ge (p := spN) (l := y.cps.toList) (i := a + 7)
      omega
    rintro r' (⟨k, hk, hh, he, hb, hr⟩ | ⟨hn, hr⟩)
    · refine ih r' (.inl ⟨k, Nat.le_of_not_lt fun hlt => ?_, hh, he, fun j hj => hb j (by omega), hr⟩)
      rcases Nat.lt_or_eq_of_le hk with h' | h'
      · exact no_hit ha h' (by rw [show skipF spN (ll y) (a + 7) = b from h3]; exact hlt) hh
      · subst h'; rw [he0] at he; cases he
    · exact ih r' (.inr ⟨fun k hk => hn k (by omega), hr⟩)
  | @told a b c h1 h2 h3 h4 h5 =>
    have ha : hitB y a = true := by
      unfold hitB
      rw [← Bool.not_eq_false]
      intro hc
      have : (Txt.slice y (some (a : Int)) (some ((a : Int) + 7)) != sCharset) = true := by
        show (!(Txt.slice y (some (a : Int)) (some ((a : Int) + 7)) == csS)) = true
        rw [hc]; rfl
      rw [this] at h2; cases h2
    have he0 : eqB y a = true := by
      rw [eqB_iff, show skipF spN (ll y) (a + 7) = b from h3]
      exact (slice_eq1 y b).mp h4
    rintro r' (⟨k, hk, hh, he, hb, hr⟩ | ⟨hn, hr⟩)
    · rcases Nat.lt_or_eq_of_le hk with h' | h'
      · have := hb a (Nat.le_refl _) h' ha
        rw [he0] at this; cases this
      · subst h'
        rw [hr]
        refine told_same henc ?_
        rw [val_list, show skipF spN (ll y) (a + 7) = b from h3, show skipF spN (ll y) (b + 1) = c from h5]
    · have := hn a (Nat.le_refl _) ha
      rw [he0] at this; cases this
end Mine
end
section
open PySem PySem.W PyProof.Rows PySem.Calls PyProof.Rows.LCg
set_option maxRecDepth 100000
set_option maxHeartbeats 8000000
namespace Mine
theorem sectP3 : True := by
  w_top off
  k_with_none
  trivial
def isB (c : Nat) : Bool := spN c || c == 47
def isN (c : Nat) : Bool := !(spN c || c == 47 || c == 61 || c == 62)
def isV (c : Nat) : Bool := !(spN c || c == 62)
theorem low_eq {c m : Nat} (h1 : m < 65) : (lowN c == m) = (c == m) := by
  unfold lowN upN
  split
  · rename_i h
    simp at h
    rw [Bool.eq_iff_iff]; simp; omega
  · rfl
theorem gt_ll : sGt = ⟨#[62]⟩ := by decide +kernel
theorem sl_ll : sSl = ⟨#[47]⟩ := by decide +kernel
section
variable (c : Nat)
theorem s_gt : ((⟨#[lowN c]⟩ : Str) == sGt) = (c == 62) := by rw [gt_ll, one_eq, low_eq (by decide)]
theorem s_eq : ((⟨#[lowN c]⟩ : Str) == eqS) = (c == 61) := by rw [eqS_ll, one_eq, low_eq (by decide)]
theorem s_sl : ((⟨#[lowN c]⟩ : Str) != sSl) = !(c == 47) := by rw [bne, sl_ll, one_eq, low_eq (by decide)]
theorem s_slS : slS ⟨#[lowN c]⟩ = (c == 47 || c == 62) := by
  show ([sSl, sGt].any fun y => y == (⟨#[lowN c]⟩ : Str)) = _
  rw [sl_ll, gt_ll]
  simp only [List.any_cons, List.any_nil, Bool.or_false, one_eq]
  rw [BEq.comm (a := 47), BEq.comm (a := 62), low_eq (by decide), low_eq (by decide)]
theorem s_quS : quS ⟨#[lowN c]⟩ = (c == 34 || c == 39) := by
  show ([PySem.Str.ofString "\"", PySem.Str.ofString "'"].any fun y => y == (⟨#[lowN c]⟩ : Str)) = _
  rw [str_quote, str_apos]
  simp only [List.any_cons, List.any_nil, Bool.or_false, one_eq]
  rw [BEq.comm (a := 34), BEq.comm (a := 39), low_eq (by decide), low_eq (by decide)]
theorem s_gap : gapS ⟨#[lowN c]⟩ = spN c := by
  rw [← low_sp, ← isSp_one]
  simp only [gapS, isSp, List.any_cons, List.any_nil, Bool.or_false, Bool.or_assoc]
  rw [BEq.comm, BEq.comm (a := PySem.Str.ofString "\n"), BEq.comm (a := PySem.Str.ofString "\x0c"), BEq.comm (a := PySem.Str.ofString "\r"), BEq.comm (a := PySem.Str.ofString " ")]
end
theorem s_q {c q : Nat} (hq : q = 34 ∨ q = 39) : ((⟨#[lowN c]⟩ : Str) == ⟨#[lowN q]⟩) = (c == q) := by
  have e : lowN q = q := low_out (by omega)
  rw [e, one_eq, low_eq (by omega)]
section
variable {p : Nat → Bool} {c : Nat} {r : List Nat}
theorem dw_t (h : p c = true) : (c :: r).dropWhile p = r.dropWhile p := by rw [List.dropWhile_cons, if_pos h]
theorem tw_t (h : p c = true) : (c :: r).takeWhile p = c :: r.takeWhile p := by rw [List.takeWhile_cons, if_pos h]
theorem dw_f (h : p c = false) : (c :: r).dropWhile p = c :: r := by rw [List.dropWhile_cons, if_neg (by rw [h]; decide)]
theorem tw_f (h : p c = false) : (c :: r).takeWhile p = [] := by rw [List.takeWhile_cons, if_neg (by rw [h]; decide)]
end
theorem add_sh (a n : Nat) : a + 1 + n = a + (n + 1) := by omega
abbrev lowL (l : List Nat) : Str := ⟨(l.map lowN).toArray⟩
theorem low_cons (nm : Str) (c : Nat) (l : List Nat) : nm ++ (⟨#[lowN c]⟩ : Str) ++ lowL l = nm ++ lowL (c :: l) := by
  apply str_of_ll
  simp [ll, PySem.Str.cps_append]
theorem low_nil (nm : Str) : nm ++ lowL [] = nm := by
  apply str_of_ll
  simp [ll, PySem.Str.cps_append]
theorem run_before : ∀ (r : List Nat) (a : Nat) (nm va q : Str), runA (r.map lowN) a .before nm va q = match r.dropWhile isB with
    | [] => none
    | c :: r' => if c = 62 then none else runA (r'.map lowN) (a + (r.takeWhile isB).length + 1) .name ⟨#[lowN c]⟩ va q
  | [], _, _, _, _ => rfl
  | c :: r, a, nm, va, q => by
    rw [List.map_cons]
    by_cases h1 : c = 62
    · subst h1
      rw [wB0 (by rw [s_gt]; rfl), dw_f (by decide)]
      rfl
    have g1 : ((⟨#[lowN c]⟩ : Str) == sGt) = false := by rw [s_gt]; simpa using h1
    by_cases h2 : spN c = true
    · rw [wB1 g1 (by rw [s_gap]; exact h2), run_before r, dw_t (by unfold isB; rw [h2]; rfl), tw_t (by unfold isB; rw [h2]; rfl), List.length_cons, add_sh]
    have h2' : spN c = false := by simpa using h2
    by_cases h3 : c = 47
    · have hb : isB c = true := by subst h3; decide
      rw [wB3 g1 (by rw [s_gap]; exact h2') (by rw [s_sl, h3]; rfl), run_before r, dw_t hb, tw_t hb, List.length_cons, add_sh]
    have hb : isB c = false := by unfold isB; rw [h2']; simpa using h3
    rw [wB2 g1 (by rw [s_gap]; exact h2') (by rw [s_sl]; simpa using h3), dw_f hb, tw_f hb]
    show _ = if c = 62 then _ else _
    rw [if_neg h1]; rfl
theorem run_name : ∀ (r : List Nat) (a : Nat) (nm va q : Str), runA (r.map lowN) a .name nm va q = match r.dropWhile isN with
    | [] => none
    | c :: r' => if c = 47 ∨ c = 62 then some (nm ++ lowL (r.takeWhile isN), sNil, ((a + (r.takeWhile isN).length : Nat) : Int)) else if c = 61 then runA (r'.map lowN) (a + (r.takeWhile isN).length + 1) .wanted (nm ++ lowL (r.takeWhile isN)) va q
        else runA (r'.map lowN) (a + (r.takeWhile isN).length + 1) .after (nm ++ lowL (r.takeWhile isN)) va q
  | [], _, _, _, _ => rfl
  | c :: r, a, nm, va, q => by
    rw [List.map_cons]
    by_cases h1 : c = 47 ∨ c = 62
    · have hn : isN c = false := by rcases h1 with rfl | rfl <;> decide
      rw [wN0 (by rw [s_slS]; simpa using h1), dw_f hn, tw_f hn]
      show _ = if c = 47 ∨ c = 62 then _ else _
      rw [if_pos h1, low_nil]; rfl
    have g1 : slS ⟨#[lowN c]⟩ = false := by rw [s_slS]; simpa using h1
    by_cases h2 : c = 61
    · have hn : isN c = false := by subst h2; decide
      rw [wN1 g1 (by rw [s_eq, h2]; rfl), dw_f hn, tw_f hn]
      show _ = if c = 47 ∨ c = 62 then _ else _
      rw [if_neg h1, if_pos h2, low_nil]; rfl
    have g2 : ((⟨#[lowN c]⟩ : Str) == eqS) = false := by rw [s_eq]; simpa using h2
    by_cases h3 : spN c = true
    · have hn : isN c = false := by unfold isN; rw [h3]; rfl
      rw [wN2 g1 g2 (by rw [s_gap]; exact h3), dw_f hn, tw_f hn]
      show _ = if c = 47 ∨ c = 62 then _ else _
      rw [if_neg h1, if_neg h2, low_nil]; rfl
    have h3' : spN c = false := by simpa using h3
    have hn : isN c = true := by
      unfold isN; rw [h3']
      simp only [not_or] at h1
      simp [h1.1, h1.2, h2]
    rw [wN3 g1 g2 (by rw [s_gap]; exact h3'), run_name r, dw_t hn, tw_t hn, List.length_cons, add_sh, low_cons]
theorem run_after : ∀ (r : List Nat) (a : Nat) (nm va q : Str), runA (r.map lowN) a .after nm va q = match r.dropWhile spN with
    | [] => none
    | c :: r' => if c = 61 then runA (r'.map lowN) (a + (r.takeWhile spN).length + 1) .wanted nm va q else some (nm, sNil, ((a + (r.takeWhile spN).length : Nat) : Int))
  | [], _, _, _, _ => rfl
  | c :: r, a, nm, va, q => by
    rw [List.map_cons]
    by_cases h2 : c = 61
    · have hn : spN c = false := by subst h2; decide
      rw [wA0 (by rw [s_eq, h2]; rfl), dw_f hn, tw_f hn]
      show _ = if c = 61 then _ else _
      rw [if_pos h2]; rfl
    have g2 : ((⟨#[lowN c]⟩ : Str) == eqS) = false := by rw [s_eq]; simpa using h2
    by_cases h3 : spN c = true
    · rw [wA1 g2 (by rw [s_gap]; exact h3), run_after r, dw_t h3, tw_t h3, List.length_cons, add_sh]
    have h3' : spN c = false := by simpa using h3
    rw [wA2 g2 (by rw [s_gap]; exact h3'), dw_f h3', tw_f h3']
    show _ = if c = 61 then _ else _
    rw [if_neg h2]; rfl
theorem run_wanted : ∀ (r : List Nat) (a : Nat) (nm va q : Str), runA (r.map lowN) a .wanted nm va q = match r.dropWhile spN with
    | [] => none
    | c :: r' => if c = 62 then some (nm, sNil, ((a + (r.takeWhile spN).length : Nat) : Int)) else if c = 34 ∨ c = 39 then runA (r'.map lowN) (a + (r.takeWhile spN).length + 1) .quoted nm va ⟨#[lowN c]⟩
        else runA (r'.map lowN) (a + (r.takeWhile spN).length + 1) .bare nm ⟨#[lowN c]⟩ q
  | [], _, _, _, _ => rfl
  | c :: r, a, nm, va, q => by
    rw [List.map_cons]
    by_cases h1 : c = 62
    · have hn : spN c = false := by subst h1; decide
      rw [wW0 (by rw [s_gt, h1]; rfl), dw_f hn, tw_f hn]
      show _ = if c = 62 then _ else _
      rw [if_pos h1]; rfl
    have g1 : ((⟨#[lowN c]⟩ : Str) == sGt) = false := by rw [s_gt]; simpa using h1
    by_cases h2 : c = 34 ∨ c = 39
    · have hn : spN c = false := by rcases h2 with rfl | rfl <;> decide
      rw [wW1 g1 (by rw [s_quS]; simpa using h2), dw_f hn, tw_f hn]
      show _ = if c = 62 then _ else _
      rw [if_neg h1, if_pos h2]; rfl
    have g2 : quS ⟨#[lowN c]⟩ = false := by rw [s_quS]; simpa using h2
    by_cases h3 : spN c = true
    · rw [wW2 g1 g2 (by rw [s_gap]; exact h3), run_wanted r, dw_t h3, tw_t h3, List.length_cons, add_sh]
    have h3' : spN c = false := by simpa using h3
    rw [wW3 g1 g2 (by rw [s_gap]; exact h3'), dw_f h3', tw_f h3']
    show _ = if c = 62 then _ else _
    rw [if_neg h1, if_neg h2]; rfl
theorem run_quoted {q0 : Nat} (hq : q0 = 34 ∨ q0 = 39) : ∀ (r : List Nat) (a : Nat) (nm va : Str), runA (r.map lowN) a .quoted nm va ⟨#[lowN q0]⟩ = match r.dropWhile (fun n => n != q0) with
    | [] => none
    | _ :: _ => some (nm, va ++ lowL (r.takeWhile (fun n => n != q0)), ((a + (r.takeWhile (fun n => n != q0)).length : Nat) : Int) + 1)
  | [], _, _, _ => rfl
  | c :: r, a, nm, va => by
    rw [List.map_cons]
    by_cases h1 : c = q0
    · have hn : (fun n => n != q0) c = false := by simpa using h1
      rw [wQ0 (by rw [s_q hq]; simpa using h1), dw_f (p := fun n => n != q0) hn, tw_f (p := fun n => n != q0) hn, low_nil]; rfl
    have hn : (fun n => n != q0) c = true := by simpa using h1
    rw [wQ1 (by rw [s_q hq]; simpa using h1), run_quoted hq r, dw_t (p := fun n => n != q0) hn, tw_t (p := fun n => n != q0) hn, List.length_cons, add_sh, low_cons]
theorem run_bare : ∀ (r : List Nat) (a : Nat) (nm va q : Str), runA (r.map lowN) a .bare nm va q = match r.dropWhile isV with
    | [] => none
    | _ :: _ => some (nm, va ++ lowL (r.takeWhile isV), ((a + (r.takeWhile isV).length : Nat) : Int))
  | [], _, _, _, _ => rfl
  | c :: r, a, nm, va, q => by
    rw [List.map_cons]
    by_cases h1 : spN c = true
    · have hn : isV c = false := by unfold isV; rw [h1]; rfl
      rw [wR0 (by rw [s_gap]; exact h1), dw_f hn, tw_f hn, low_nil]; rfl
    have h1' : spN c = false := by simpa using h1
    have g1 : gapS ⟨#[lowN c]⟩ = false := by rw [s_gap]; exact h1'
    by_cases h2 : c = 62
    · have hn : isV c = false := by subst h2; decide
      rw [wR1 g1 (by rw [s_gt, h2]; rfl), dw_f hn, tw_f hn, low_nil]; rfl
    have hn : isV c = true := by unfold isV; rw [h1']; simpa using h2
    rw [wR2 g1 (by rw [s_gt]; simpa using h2), run_bare r, dw_t hn, tw_t hn, List.length_cons, add_sh, low_cons]
end Mine
end
section
open PySem PySem.W PyProof.Rows PySem.Calls PyProof.Rows.LCg
set_option maxRecDepth 100000
set_option maxHeartbeats 8000000
namespace Mine
theorem sectP4 : True := by
  w_top off
  k_with_none
  trivial
theorem skip_cases (p : Nat → Bool) (l : List Nat) (a : Nat) : ((l.drop a).dropWhile p = [] ∧ l.length ≤ skipF p l a) ∨ ∃ c, (l.drop a).dropWhile p = c :: l.drop (skipF p l a + 1) ∧ skipF p l a < l.length ∧ l.getD (skipF p l a) 0 = c ∧ l[skipF p l a]? = some c ∧ p c = false := by
  rw [← drop_skipF]
  by_cases h : skipF p l a < l.length
  · refine .inr ⟨l[skipF p l a], List.drop_eq_getElem_cons h, h, ?_, List.getElem?_eq_getElem h, ?_⟩
    · rw [List.getD_eq_getElem?_getD, List.getElem?_eq_getElem h]; rfl
    · have hs := PyProof.Rows.takeWhile_stop p 0 (l.drop a)
      have e : skipF p l a = a + ((l.drop a).takeWhile p).length := rfl
      rcases hs with hs | hs
      · rw [List.length_drop] at hs; omega
      · rw [List.getD_eq_getElem?_getD, List.getElem?_drop, ← e, List.getElem?_eq_getElem h] at hs
        exact hs
  · exact .inl ⟨List.drop_eq_nil_of_le (by omega), by omega⟩
theorem oct_getD (bs : List UInt8) (a : Nat) : (bs.getD a 0).toNat = (bs.map UInt8.toNat).getD a 0 := by
  rw [List.getD_eq_getElem?_getD, List.getD_eq_getElem?_getD, List.getElem?_map]
  cases bs[a]? <;> rfl
theorem fold_cut (bs : List UInt8) (a b : Nat) : foldB (cutL bs a b) = lowL (cutL (bs.map UInt8.toNat) a b) := by
  unfold foldB cutL
  rw [List.map_take, List.map_drop]
theorem nat_beq (k n : Nat) : (((k : Nat) : Int) == (n : Int)) = (n == k) := by
  rw [Bool.eq_iff_iff, beq_iff_eq, beq_iff_eq]; omega
theorem those_eq (ks : List Nat) (n : Nat) : thoseB (ks.map fun k => ((k : Nat) : Int)) n = ks.any fun k => n == k := by
  unfold thoseB
  rw [List.any_map]
  congr 1
  funext k
  exact nat_beq k n
theorem those_B : thoseB [9, 10, 12, 13, 32, 47] = isB := by
  funext n
  refine (those_eq [9, 10, 12, 13, 32, 47] n).trans ?_
  unfold isB spN
  simp only [List.any_cons, List.any_nil, Bool.or_false, Bool.or_assoc]
theorem those_N : (fun n => !thoseB [9, 10, 12, 13, 32, 47, 61, 62] n) = isN := by
  funext n
  refine (congrArg not (those_eq [9, 10, 12, 13, 32, 47, 61, 62] n)).trans ?_
  unfold isN spN
  simp only [List.any_cons, List.any_nil, Bool.or_false, Bool.or_assoc, Bool.not_or, Bool.and_assoc, bne]
theorem those_G : thoseB gapsL = spN := by
  funext n
  refine (those_eq [9, 10, 12, 13, 32] n).trans ?_
  unfold spN
  simp only [List.any_cons, List.any_nil, Bool.or_false, Bool.or_assoc]
theorem those_V : (fun n => !thoseB [9, 10, 12, 13, 32, 62] n) = isV := by
  funext n
  refine (congrArg not (those_eq [9, 10, 12, 13, 32, 62] n)).trans ?_
  unfold isV spN
  simp only [List.any_cons, List.any_nil, Bool.or_false, Bool.or_assoc, Bool.not_or, Bool.and_assoc, bne]
theorem those_Q (q : Nat) : (fun n => !thoseB [(q : Int)] n) = (fun n => n != q) := by
  funext n
  unfold thoseB
  rw [Bool.eq_iff_iff]; simp; omega
theorem low_pre (c : Nat) (l : List Nat) : (⟨#[lowN c]⟩ : Str) ++ lowL l = lowL (c :: l) := by
  apply str_of_ll
  simp [ll, PySem.Str.cps_append]
theorem nil_pre (x : Str) : sNil ++ x = x := by
  have e : sNil = ⟨#[]⟩ := by decide +kernel
  rw [e]
  apply str_of_ll
  simp [ll, PySem.Str.cps_append]
theorem low_nil' : lowL [] = sNil := by decide +kernel
theorem cut_cons {l : List Nat} {a c : Nat} {p : Nat → Bool} (h : l[a]? = some c) : cutL l a (skipF p l (a + 1)) = c :: (l.drop (a + 1)).takeWhile p := by
  rw [← cut_skip]
  obtain ⟨hi, rfl⟩ := List.getElem?_eq_some_iff.mp h
  unfold cutL
  have e : skipF p l (a + 1) - a = (skipF p l (a + 1) - (a + 1)) + 1 := by
    have := skipF_ge (p := p) (l := l) (i := a + 1)
    omega
  rw [e, List.drop_eq_getElem_cons hi, List.take_succ_cons]
/-- what is behind the sign of equality -/
def tailA (l : List Nat) (nm : Str) (a : Nat) : Option (Str × Str × Int) :=
  let a4 := skipF spN l (a + 1)
  if l.length ≤ a4 then none else
  let q := l.getD a4 0
  if q = 34 ∨ q = 39 then
    let e := skipF (fun n => n != q) l (a4 + 1)
    if l.length ≤ e then none else some (nm, lowL (cutL l (a4 + 1) e), (e : Int) + 1)
  else
    let e := skipF isV l a4
    if l.length ≤ e then none else some (nm, lowL (cutL l a4 e), (e : Int))
theorem tail_same (l : List Nat) (nm : Str) (a : Nat) : tailA l nm a = runA ((l.drop (a + 1)).map lowN) (a + 1) .wanted nm sNil sNil := by
  rw [run_wanted]
  unfold tailA
  dsimp only
  rcases skip_cases spN l (a + 1) with ⟨h1, h2⟩ | ⟨c, h1, h2, h3, h4, h5⟩
  · rw [if_pos h2, h1]
  · rw [if_neg (Nat.not_le.mpr h2), h1, h3]
    have es : a + 1 + ((l.drop (a + 1)).takeWhile spN).length = skipF spN l (a + 1) := rfl
    dsimp only
    rw [es]
    generalize skipF spN l (a + 1) = a4 at *
    by_cases g1 : c = 62
    · rw [if_pos g1, if_neg (by omega)]
      have e : skipF isV l a4 = a4 := skipF_here h4 (by subst g1; decide)
      rw [e, if_neg (by omega)]
      have e2 : cutL l a4 a4 = [] := by unfold cutL; rw [Nat.sub_self]; rfl
      rw [e2, low_nil']
    rw [if_neg g1]
    by_cases g2 : c = 34 ∨ c = 39
    · rw [if_pos g2, if_pos g2, run_quoted g2]
      rcases skip_cases (fun n => n != c) l (a4 + 1) with ⟨k1, k2⟩ | ⟨c', k1, k2, k3, k4, k5⟩
      · rw [if_pos k2, k1]
      · rw [if_neg (Nat.not_le.mpr k2), k1]
        dsimp only
        rw [nil_pre, cut_skip]; rfl
    · rw [if_neg g2, if_neg g2, run_bare]
      have hv : isV c = true := by unfold isV; rw [h5]; simpa using g1
      rw [skipF_step h4 hv]
      rcases skip_cases isV l (a4 + 1) with ⟨k1, k2⟩ | ⟨c', k1, k2, k3, k4, k5⟩
      · rw [if_pos k2, k1]
      · rw [if_neg (Nat.not_le.mpr k2), k1]
        dsimp only
        rw [low_pre, cut_cons h4]; rfl
theorem attr_same (bs : List UInt8) (i : Nat) : gA bs i = lA bs i .before sNil sNil sNil := by
  have hl : bs.length = (bs.map UInt8.toNat).length := by rw [List.length_map]
  have key : gA bs i = (let l := bs.map UInt8.toNat
      let a1 := skipF isB l i
      if l.length ≤ a1 then none else if l.getD a1 0 = 62 then none else
      let a2 := skipF isN l (a1 + 1)
      let a3 := skipF spN l a2
      if l.length ≤ a3 then none else if l.getD a3 0 ≠ 61 then some (lowL (cutL l a1 a2), sNil, (a3 : Int)) else tailA l (lowL (cutL l a1 a2)) a3) := by
    unfold gA tailA
    simp only [those_B, those_N, those_G, those_V, those_Q, oct_getD, hl, fold_cut]
  rw [key]
  unfold lA
  generalize bs.map UInt8.toNat = l
  dsimp only
  rw [run_before]
  rcases skip_cases isB l i with ⟨h1, h2⟩ | ⟨c, h1, h2, h3, h4, h5⟩
  · rw [if_pos h2, h1]
  · rw [if_neg (Nat.not_le.mpr h2), h1, h3]
    have es : i + ((l.drop i).takeWhile isB).length = skipF isB l i := rfl
    dsimp only
    rw [es]
    generalize skipF isB l i = a1 at *
    by_cases g1 : c = 62
    · rw [if_pos g1, if_pos g1]
    rw [if_neg g1, if_neg g1, run_name]
    have hcut := cut_cons (p := isN) h4
    have es2 : a1 + 1 + ((l.drop (a1 + 1)).takeWhile isN).length = skipF isN l (a1 + 1) := rfl
    rw [hcut, low_pre]
    generalize lowL (c :: (l.drop (a1 + 1)).takeWhile isN) = nm
    rcases skip_cases isN l (a1 + 1) with ⟨k1, k2⟩ | ⟨c2, k1, k2, k3, k4, k5⟩
    · rw [k1]
      rw [if_pos (Nat.le_trans k2 skipF_ge)]
    · rw [k1]
      dsimp only
      rw [es2]
      generalize skipF isN l (a1 + 1) = a2 at *
      by_cases g2 : c2 = 47 ∨ c2 = 62
      · have hs : spN c2 = false := by rcases g2 with rfl | rfl <;> decide
        rw [skipF_here k4 hs, if_neg (Nat.not_le.mpr k2), k3, if_pos (by omega), if_pos g2]
      rw [if_neg g2]
      by_cases g3 : c2 = 61
      · have hs : spN c2 = false := by subst g3; decide
        rw [skipF_here k4 hs, if_neg (Nat.not_le.mpr k2), k3, if_neg (by omega), if_pos g3, tail_same]
      · rw [if_neg g3, run_after]
        have hs : spN c2 = true := by
          unfold isN at k5
          simp only [not_or] at g2
          simpa [g2.1, g2.2, g3] using k5
        rw [skipF_step k4 hs]
        have es3 : a2 + 1 + ((l.drop (a2 + 1)).takeWhile spN).length = skipF spN l (a2 + 1) := rfl
        rcases skip_cases spN l (a2 + 1) with ⟨m1, m2⟩ | ⟨c3, m1, m2, m3, m4, m5⟩
        · rw [if_pos m2, m1]
        · rw [if_neg (Nat.not_le.mpr m2), m1, m3]
          dsimp only
          rw [es3]
          by_cases g4 : c3 = 61
          · rw [if_neg (by omega), if_pos g4, tail_same]
          · rw [if_pos g4, if_neg g4]
theorem attr_bound {bs : List UInt8} {i : Nat} {n u : Str} {p : Int} (h : gA bs i = some (n, u, p)) : (i : Int) < p ∧ p ≤ (bs.length : Int) := by
  unfold gA at h
  dsimp only at h
  have b1 := skipF_ge (p := thoseB [9, 10, 12, 13, 32, 47]) (l := bs.map UInt8.toNat) (i := i)
  generalize skipF (thoseB [9, 10, 12, 13, 32, 47]) (bs.map UInt8.toNat) i = a1 at *
  have b2 := skipF_ge (p := fun n => !thoseB [9, 10, 12, 13, 32, 47, 61, 62] n) (l := bs.map UInt8.toNat) (i := a1 + 1)
  generalize skipF (fun n => !thoseB [9, 10, 12, 13, 32, 47, 61, 62] n) (bs.map UInt8.toNat) (a1 + 1) = a2 at *
  have b3 := skipF_ge (p := thoseB gapsL) (l := bs.map UInt8.toNat) (i := a2)
  generalize skipF (thoseB gapsL) (bs.map UInt8.toNat) a2 = a3 at *
  have b4 := skipF_ge (p := thoseB gapsL) (l := bs.map UInt8.toNat) (i := a3 + 1)
  generalize skipF (thoseB gapsL) (bs.map UInt8.toNat) (a3 + 1) = a4 at *
  have b5 := skipF_ge (p := fun n => !thoseB [((bs.getD a4 0).toNat : Int)] n) (l := bs.map UInt8.toNat) (i := a4 + 1)
  generalize skipF (fun n => !thoseB [((bs.getD a4 0).toNat : Int)] n) (bs.map UInt8.toNat) (a4 + 1) = e1 at *
  have b6 := skipF_ge (p := fun n => !thoseB [9, 10, 12, 13, 32, 62] n) (l := bs.map UInt8.toNat) (i := a4)
  generalize skipF (fun n => !thoseB [9, 10, 12, 13, 32, 62] n) (bs.map UInt8.toNat) a4 = e2 at *
  repeat' split at h
  all_goals first
    | (cases h; done)
    | (simp only [Option.some.injEq, Prod.mk.injEq] at h; obtain ⟨_, _, rfl⟩ := h; omega)
theorem low_ok (l : List UInt8) : PySem.PyData.strOk (foldB l) = true := by
  unfold PySem.PyData.strOk foldB
  rw [← Array.all_toList, List.all_eq_true]
  intro x hx
  obtain ⟨y, hy, rfl⟩ := List.mem_map.mp hx
  obtain ⟨z, _, rfl⟩ := List.mem_map.mp hy
  have := z.toNat_lt
  have h2 : lowN z.toNat ≤ z.toNat + 32 := by unfold lowN; split <;> omega
  simp only [decide_eq_true_eq]
  omega
theorem attr_ok {bs : List UInt8} {i : Nat} {n u : Str} {p : Int} (h : gA bs i = some (n, u, p)) : PySem.PyData.strOk n = true ∧ PySem.PyData.strOk u = true := by
  have h0 : PySem.PyData.strOk (PySem.Str.ofString "") = true := by decide +kernel
  unfold gA at h
  dsimp only at h
  repeat' split at h
  all_goals first
    | (cases h; done)
    | (simp only [Option.some.injEq, Prod.mk.injEq] at h; obtain ⟨rfl, rfl, _⟩ := h; first | exact ⟨low_ok _, low_ok _⟩ | exact ⟨low_ok _, h0⟩)
end Mine
end
section
open PySem PySem.W PyProof.Rows PySem.Calls PyProof.Rows.LCg
set_option maxRecDepth 100000
set_option maxHeartbeats 8000000
namespace Mine
theorem sectP8 : True := by
  w_top off
  k_with_none
  trivial
theorem in_known {p : Str × Str} (h : p ∈ knownT) : (ll p.1, ll p.2) ∈ knownF := by
  rw [← known_fast]
  exact List.mem_map.mpr ⟨p, h, rfl⟩
theorem look_of {k v : Str} (h : lookN rowsF (ll k) = some (ll v)) : lookT rowsTab k = some v := by
  rw [← rows_fast, look_fast] at h
  cases hk : lookT rowsTab k with
  | none => rw [hk] at h; cases h
  | some u =>
    rw [hk] at h
    have e : ll u = ll v := Option.some.inj h
    rw [str_of_ll e]
theorem tabA : ∀ p ∈ knownT, lookT rowsTab p.1 = some p.2 := fun p hp => look_of (checkedP.2.1 _ (in_known hp)).2.2.1
theorem tabC : ∀ p ∈ rowsTab, ∃ q ∈ knownT, q.1 = p.1 := by
  intro p hp
  have h : (ll p.1, ll p.2) ∈ rowsF := by
    rw [← rows_fast]
    exact List.mem_map.mpr ⟨p, hp, rfl⟩
  obtain ⟨q, hq, e⟩ := checkedP.2.2 _ h
  rw [← known_fast] at hq
  obtain ⟨q', hq', rfl⟩ := List.mem_map.mp hq
  exact ⟨q', hq', str_of_ll e⟩
theorem enc_same (x : Str) : encE x = nameT knownT x := enc_same' tabA tabC x
theorem content_same {y : Str} {r r' : Option Str} (h1 : ContR y 0 r) (h2 : LawC knownT y r') : r = r' := cont_from enc_same h1 r' (lawC_from h2)
theorem wanted_list (x : Str) : ll (wantedE x) = lowSt (ll x) := by
  rw [← wanted_eq, strip_list, low_list]; rfl
theorem enc_of {x n : Str} (h : lookN rowsF (lowSt (ll x)) = some (ll n)) : encE x = some n := by
  unfold encE
  rw [enc_rows]
  refine look_of (k := wantedE x) ?_
  rw [wanted_list]; exact h
theorem join_flat (ys : List Str) : ll (Txt.join (PySem.Str.ofString "") ys) = ys.flatMap ll := by
  unfold Txt.join
  rw [StrLaws.glued_eq_join]
  have he : (PySem.Str.ofString "") = ⟨#[]⟩ := by decide +kernel
  rw [he]
  induction ys with
  | nil => rfl
  | cons a r ih =>
    cases r with
    | nil => simp [Str.join]
    | cons b r =>
      show ll (a ++ (⟨#[]⟩ : Str) ++ Str.join ⟨#[]⟩ (b :: r)) = _
      rw [List.flatMap_cons, ← ih]
      simp [ll, PySem.Str.cps_append]
theorem up_one {c : Nat} (h : c < 128) : ll (Txt.upper ⟨#[c]⟩) = [upA c] := by
  have h1 := List.all_eq_true.mp up_ascii c (List.mem_range.mpr h)
  have h2 : Unicode.upperOf c = [upA c] := by simpa using h1
  have h3 : ll (Txt.upper ⟨#[c]⟩) = Unicode.upperOf c := by
    unfold Txt.upper placed
    simp
  rw [h3, h2]
theorem low_up {c : Nat} : lowN (upA c) = lowN c := by
  unfold upA
  split
  · rename_i h
    rw [low_in (by omega) (by omega), low_out (by omega)]
    omega
  · rfl
theorem mixE_low {x : Str} {k : Nat} (h : ∀ c ∈ ll x, c < 128) (hk : k < x.length) : (ll (mixE x 0 k)).map lowN = [lowN ((ll x).getD k 0)] := by
  obtain ⟨c, h1, h2, h3⟩ := item_get hk
  have hc : c < 128 := h c (List.mem_of_getElem? h1)
  have h3' : (ll x).getD k 0 = c := h3
  unfold mixE
  rw [h2, h3']
  split
  · rw [up_one hc, List.map_cons, List.map_nil, low_up]
  · rfl
theorem flat_single {f : Nat → Str} {g : Nat → Nat} : ∀ {ks : List Nat}, (∀ k ∈ ks, (ll (f k)).map lowN = [g k]) → ((ks.map f).flatMap ll).map lowN = ks.map g
  | [], _ => rfl
  | a :: r, h => by
    rw [List.map_cons, List.flatMap_cons, List.map_append, h a (.head _), flat_single fun k hk => h k (.tail _ hk)]
    rfl
theorem range_getD (f : Nat → Nat) (l : List Nat) : (List.range l.length).map (fun k => f (l.getD k 0)) = l.map f := by
  apply List.ext_getElem
  · simp
  · intro i h1 h2
    have hi : i < l.length := by simpa using h1
    simp [hi]
theorem mix_low {x : Str} (h : ∀ c ∈ ll x, c < 128) : (ll (mixS x 0)).map lowN = (ll x).map lowN := by
  unfold mixS mixL
  rw [join_flat, flat_single (g := fun k => lowN ((ll x).getD k 0)) fun k hk => mixE_low h (List.mem_range.mp hk)]
  exact range_getD lowN (ll x)
theorem names_same {k n : Str} (h : lookT knownT k = some n) : encE n = some n ∧ encE (PySem.Str.ofString " " ++ mixS n 0) = some n ∧ n.length ≤ 64 := by
  obtain ⟨p, hp, e1, rfl⟩ := look_some h
  obtain ⟨a1, a2, a3, a4, a5⟩ := checkedP.2.1 _ (in_known hp)
  refine ⟨enc_of a4, enc_of ?_, a2⟩
  have e : lowSt (ll (PySem.Str.ofString " " ++ mixS p.2 0)) = lowSt (ll p.2) := by
    have e2 : ll (PySem.Str.ofString " " ++ mixS p.2 0) = 32 :: ll (mixS p.2 0) := by
      rw [sp_ll]
      simp [ll, PySem.Str.cps_append]
    unfold lowSt
    rw [e2, List.map_cons, mix_low a5]
    rfl
  rw [e]; exact a4
theorem keys_len' : (knownT.map (·.1)).length = 228 := by
  have := checkedP.1
  rw [← known_fast] at this
  unfold nt at this
  rw [List.length_map] at this ⊢
  exact this
theorem keys_short' : ∀ y ∈ knownT.map (·.1), y.length ≤ 64 := by
  intro y hy
  obtain ⟨p, hp, rfl⟩ := List.mem_map.mp hy
  exact (checkedP.2.1 _ (in_known hp)).1
end Mine
end
section
open PySem PySem.W PyProof.Rows PySem.Calls PyProof.Rows.LCg
set_option maxRecDepth 100000
set_option maxHeartbeats 8000000
namespace Mine
theorem sectG16 : True := by
  w_top off
  k_with_none
  trivial
variable {w : World} {mean : ExcName → Option Value} {mg mb : Str → Option Value}

theorem strs_ofAt : ∀ (vs : List Value) (ks : List Str), vs.length = ks.length → (∀ (j : Nat) (u : Value), vs[j]? = some u → ∃ k t, ks[j]? = some k ∧ u = .str k t) → StrsAre vs ks
  | [], [], _, _ => .nil
  | [], _ :: _, h, _ => by simp at h
  | _ :: _, [], h, _ => by simp at h
  | v :: vs, k :: ks, hl, h => by
    obtain ⟨k', t, e, rfl⟩ := h 0 v rfl
    simp only [List.getElem?_cons_zero, Option.some.injEq] at e
    subst e
    exact .cons _ _ (strs_ofAt vs ks (by simpa using hl) fun j u hu => by simpa using h (j + 1) u (by simpa using hu))
section
variable {A : Around} {E : Value → Shared → Prop} {s : Shared} {h₀ : Heap} {L d : Addr} {m : Str → Option Value} {news : List (Addr × Obj)} {o : Obj} {tb : List (Str × Str)} {Q : Value → Shared → Prop}
theorem my_listKeys (F : Fr h₀ L s.heap m) (N : News h₀ L s.heap news) (hm : (d, o) ∈ news) (T : TabObj w o tb) (hs : (d == sysModules) = false) (hh : A.handled = none) (hz : tb.length ≤ 1000)
    (h : ∀ B c h' tk vs, StrsAre vs (tb.map (·.1)) → Fr h₀ L h' m → News h₀ L h' ((B, listOf vs.toArray c) :: news) → (∀ q ∈ news, q.1 < B) → Q (.ref B) { s with heap := h', toks := tk }) : wpAny (model PR w) A (call (.type "list") [.ref d]) Q E s := by
  obtain ⟨lo, kvs, hD, hf⟩ := T.tab (N _ hm).1 hs
  obtain ⟨ep, hat⟩ := hD.dictAt
  have hl0 : kvs.length = tb.length := by have h1 := hf.length; unfold tbD at h1; rw [List.length_map] at h1; omega
  refine kdl_N (kdl_dict (knd := strKind PR w) (kvs := kvs) (ep := ep) lo) hh F N hat (kdl_size (by omega)) fun B c h' tk vs F' N' l1 hl hv => h B c h' tk vs (strs_ofAt _ _ (by rw [List.length_map, ← hl0]; exact hl) fun j u hu => ?_) F' N' l1
  obtain ⟨k, x, hx, hk⟩ := hv j u hu
  obtain ⟨dv, hd, _⟩ := hf.at hx
  obtain ⟨t, rfl⟩ := PyProof.V.Flat.str_inv (kdl_flat_str hk)
  refine ⟨k, t, ?_, rfl⟩
  unfold tbD at hd
  rw [List.getElem?_map] at hd ⊢
  cases hq : tb[j]? with
  | none => rw [hq] at hd; cases hd
  | some p =>
    rw [hq] at hd
    simp only [Option.map_some, Option.some.injEq, Prod.mk.injEq, PyData.str.injEq] at hd ⊢
    exact hd.1
end
section
variable {prog : Program} {A : Around} {E : Value → Shared → Prop} {s : Shared} {h₀ : Heap} {L : Addr} {news : List (Addr × Obj)} {Q : Value → Shared → Prop}
theorem my_lenS {D : Addr} {vs : List Value} {ws : List Str} {c n : Nat} (N : News h₀ L s.heap news) (hm : (D, listOf vs.toArray c) ∈ news) (hw : StrsAre vs ws) (hn : ws.length = n) (hz : n ≤ 1000) (h : Q (.int (n : Nat) (s.toks + 1)) { s with toks := s.toks + 1 + 1 }) :
    wpAny (model prog w) A (call (.builtin "len") [.ref D]) Q E s :=
  KM.len_K (n := n) N hm (by rw [List.size_toArray, hw.len_eq, hn]) (by omega) h
theorem my_word {D : Addr} {vs : List Value} {ws : List Str} {c n : Nat} {i : Int} {u : Tok} {value slice : PySem.Expr} (N : News h₀ L s.heap news) (hm : (D, listOf vs.toArray c) ∈ news) (hw : StrsAre vs ws) (hn : ws.length = n) (h0 : 0 ≤ i) (h1 : i < (n : Int)) (hz : n ≤ 1000) (h : ∀ y t', y ∈ ws → Q (.str y t') s)
    (hs : subscripted slice false (.ref D) (.int i u) = operate [.ref D, .int i u] (getItem (.ref D) (.int i u)) := by with_unfolding_all rfl) :
    wpAny (model prog w) A (subscriptTail value slice (.ref D) (.int i u)) Q E s := by
  refine KTb.item_list (News.isList N hm) hw h0 (by omega) (by omega) (fun t' hlt => h _ t' ?_) hs
  rw [List.getD_eq_getElem?_getD, List.getElem?_eq_getElem hlt]
  exact List.getElem_mem hlt
end
abbrev keysT : List Str := knownT.map (·.1)
theorem keys_len : keysT.length = 228 := keys_len'
theorem keys_short : ∀ y ∈ keysT, y.length ≤ 64 := keys_short'
theorem known_len : knownT.length ≤ 1000 := by have := keys_len; rw [List.length_map] at this; omega
theorem kpD' {h₀ h : Heap} {L l : Addr} {m : Str → Option Value} {vs : List Value} {ns : List Int} {z : Int} (F : Fr h₀ L h m) (hl : h₀.IsList l vs.toArray) (hi : IntsAre vs ns) (hn : ns.length ≤ 63) (hz : 0 ≤ z) : h.IsList l vs.toArray ∧ IntsAre vs ns ∧ ns.length ≤ 1000 ∧ 0 ≤ z :=
  ⟨hl.at fun o e => F.keep _ _ e, hi, by omega, hz⟩
theorem kpT' {h₀ h : Heap} {L l : Addr} {m : Str → Option Value} {vs : List Value} {ns : List Int} {x : Str} (F : Fr h₀ L h m) (hl : h₀.IsList l vs.toArray) (hi : IntsAre vs ns) (hn : ns.length ≤ 63) (hz : x.length ≤ 100000) : h.IsList l vs.toArray ∧ IntsAre vs ns ∧ ns.length ≤ 1000 ∧ x.length ≤ 100000 :=
  ⟨hl.at fun o e => F.keep _ _ e, hi, by omega, hz⟩
section
variable {prog : Program} {A : Around} {E : Value → Shared → Prop} {s : Shared} {Q : Value → Shared → Prop}
theorem my_ne_opt {r : Option Str} {v1 v2 : Value} (h1 : optR r v1) (h2 : optR r v2) (h : Q (.bool false) s) : wpAny (model prog w) A (compareOp .NotEq v1 v2) Q E s := by
  cases r with
  | none =>
    have e1 : v1 = .none := h1
    have e2 : v2 = .none := h2
    subst e1; subst e2
    exact EqNone.ne_none_none h
  | some n =>
    obtain ⟨t1, rfl⟩ := h1
    obtain ⟨t2, rfl⟩ := h2
    refine ne_str ?_
    have e : (n != n) = false := by rw [bne_self_eq_false]
    rw [e]; exact h
theorem my_eq_opt {r : Option Str} {v1 : Value} {n : Str} {t : Tok} (h1 : optR r v1) (e : r = some n) (h : Q (.bool true) s) : wpAny (model prog w) A (compareOp .Eq v1 (.str n t)) Q E s := by
  subst e
  obtain ⟨t1, rfl⟩ := h1
  refine eq_str ?_
  have e : (n == n) = true := by rw [beq_self_eq_true]
  rw [e]; exact h
end
theorem optR_enc {x : Str} {v : Value} (h : optR (nameT knownT x) v) : optR (encE x) v := by rw [enc_same]; exact h
def BodyP (w : World) (mean : ExcName → Option Value) (mg mb : Str → Option Value) (D : Nat) (name : Str) (scope : Scope) (body : List Stmt) (binds : List (Str × Value)) (pre : Heap → Prop) (R : Heap → Value → Heap → Prop) : Prop :=
  ∀ (f : Addr) (cdv : Value) (dp un : Nat) (gd : Option (List Code)) (outer : List Env) (A₀ : Around) (base g : Heap) (L : Addr) (h₁ : Heap) (cells : List (Addr × Obj)) (s : Shared),
      Below A₀ base outer g → Fr g L h₁ (bindL (envOfC name scope L f cdv).kindOf binds fun _ => none) → (hd.heap_1_1 w.params).In g → News g L h₁ cells →
      CellsAre (bindC (envOfC name scope L f cdv).kindOf binds fun _ => none) (cellsFrom (L + 1) scope.names []) cells → Top hd.view_1_2 (looseW hd.view_1_2 []) mean mg mb g →
      dp + D < recursionLimit + 1 → un + 3 * D + 8 < cLine + 3 → pre g → s.heap = h₁ →
      wpAny (model PR w) (ktrTop dp un gd name scope L f cdv (cellsFrom (L + 1) scope.names []) outer) (execs body (envOfC name scope L f cdv))
        (fun fl s' => Done g s R (match fl with | .ret v => v | _ => .none) s') (fun _ _ => False) s
def BodyOf (w : World) (mean : ExcName → Option Value) (mg mb : Str → Option Value) (D : Nat) (f₀ : Addr) (binds : List (Str × Value)) (pre : Heap → Prop) (R : Heap → Value → Heap → Prop) : Prop :=
  ∀ (name : Str) (params : Arguments) (body : List Stmt) (scope : Scope) (dV kV doc pm cdv ct oc : Value) (an od : Option Addr) (osl : Array (Option Value)),
    (hd.heap_1_1 w.params).lookup f₀ = some ⟨oc, od, .func (fnOf name name params body scope dV kV doc pm an cdv ct), osl⟩ → BodyP w mean mg mb D name scope body binds pre R
theorem bodyOf_intro {w : World} {mean : ExcName → Option Value} {mg mb : Str → Option Value} {D : Nat} {f₀ : Addr} {binds : List (Str × Value)} {pre : Heap → Prop} {R : Heap → Value → Heap → Prop}
    {name : Str} {params : Arguments} {body : List Stmt} {scope : Scope} {dV kV doc pm cdv ct oc : Value} {an od : Option Addr} {osl : Array (Option Value)}
    (hc : (hd.heap_1_1 w.params).lookup f₀ = some ⟨oc, od, .func (fnOf name name params body scope dV kV doc pm an cdv ct), osl⟩) (h : BodyP w mean mg mb D name scope body binds pre R) : BodyOf w mean mg mb D f₀ binds pre R := by
  intro name' params' body' scope' dV' kV' doc' pm' cdv' ct' oc' an' od' osl' ho
  rw [hc] at ho
  cases ho
  exact h

end Mine
end
section
open PySem PySem.W PyProof.Rows PySem.Calls PyProof.Rows.LCg
set_option maxRecDepth 100000
set_option maxHeartbeats 8000000
namespace Mine
theorem sectF16 : True := by
  w_top off
  k_with_none
  trivial
variable {w : World} {mean : ExcName → Option Value} {mg mb : Str → Option Value}

section
variable {prog : Program} {A : Around} {E : Value → Shared → Prop} {s : Shared} {h₀ : Heap} {L D : Addr} {m : Str → Option Value} {news : List (Addr × Obj)} {Q : Value → Shared → Prop}
theorem my_bytes {vs : List Value} {c : Nat} (F : Fr h₀ L s.heap m) (N : News h₀ L s.heap news) (hm : (D, listOf vs.toArray c) ∈ news) (hh : A.handled = none) (h16 : ∃ ns, IntsAre vs ns ∧ KBa.In ns ∧ ns.length = 16)
    (h : ∀ h' t' k (bs : List UInt8), bs.length = 16 → Fr h₀ L h' m → News h₀ L h' news → Q (.bytes bs.toArray t') { s with heap := h', toks := k }) : wpAny (model prog w) A (call (.type "bytes") [.ref D]) Q E s := by
  obtain ⟨ns, hi, hr, hl⟩ := h16
  refine KBa.make_K F N hh (News.isList N hm) hi hr (by omega) fun h' t' k F' N' _ => ?_
  exact h h' t' k (ns.map fun n => n.toNat.toUInt8) (by rw [List.length_map]; exact hl) F' N'
theorem my_ord {x : Str} {i : Int} {t : Tok} (hx : ∀ c ∈ x.cps.toList, c < 256) (h : ∀ (n : Nat) t' k, n < 256 → Q (.int (n : Int) t') { s with toks := k }) : wpAny (model prog w) A (call (.builtin "ord") [.str (Txt.item x i) t]) Q E s := by
  unfold Txt.item
  refine P.ord_of_char (h _ _ _ ?_)
  cases hc : Txt.charAt x i with
  | none => exact (by decide : (0 : Nat) < 256)
  | some c =>
    unfold Txt.charAt at hc
    obtain ⟨j, _, hj⟩ := Option.bind_eq_some_iff.mp hc
    refine hx c ?_
    have hj' : x.cps.toList[j]? = some c := by simpa using hj
    exact List.mem_of_getElem? hj'
end
theorem gaR_none' {r : Option (Str × Str × Int)} {g h' : Heap} {v : Value} (h : gaR r g v h') (e : r = none) : v = .none := by subst e; exact h
theorem gaR_some' {r : Option (Str × Str × Int)} {g h' : Heap} {v : Value} {n u : Str} {p : Int} (h : gaR r g v h') (e : r = some (n, u, p)) : ∃ t1 t2 t3 a, v = .ref a ∧ h'.get? a = some (tupO [.str n t1, .str u t2, .int p t3]) ∧ g.get? a = none := by
  subst e
  obtain ⟨t1, t2, t3, a, e, h1, h2⟩ := h
  exact ⟨t1, t2, t3, a, e, h1, h2⟩
theorem gaR_cases {r : Option (Str × Str × Int)} {g h' : Heap} {v : Value} (h : gaR r g v h') : (r = none ∧ v = .none) ∨ ∃ n u p t1 t2 t3 a, r = some (n, u, p) ∧ v = .ref a ∧ h'.get? a = some (tupO [.str n t1, .str u t2, .int p t3]) ∧ g.get? a = none := by
  cases r with
  | none => exact .inl ⟨rfl, h⟩
  | some x =>
    obtain ⟨n, u, p⟩ := x
    obtain ⟨t1, t2, t3, a, e, h1, h2⟩ := h
    exact .inr ⟨n, u, p, t1, t2, t3, a, rfl, e, h1, h2⟩
theorem get_attribute_clZ (bs : List UInt8) (t : Tok) (z : Int) (ti : Tok) : Cl w mean mg mb 5 96 [.bytes bs.toArray t, .int z ti] (fun h => 0 ≤ z ∧ bs.length ≤ 1000000) (fun g v h' => gaR (gA bs z.toNat) g v h') :=
  Cl.ofNat (vs := fun z => [.bytes bs.toArray t, .int z ti]) (pre := fun _ _ => bs.length ≤ 1000000) (R := fun i g v h' => gaR (gA bs i) g v h') (fun i => get_attribute_cl bs t i ti) z
theorem law_attribute_clZ (bs : List UInt8) (t : Tok) (z : Int) (ti : Tok) : Cl w mean mg mb 2 172 [.bytes bs.toArray t, .int z ti] (fun h => 0 ≤ z ∧ bs.length ≤ 1000) (fun g v h' => gaR (gA bs z.toNat) g v h') :=
  Cl.ofNat (vs := fun z => [.bytes bs.toArray t, .int z ti]) (pre := fun _ _ => bs.length ≤ 1000) (R := fun i g v h' => gaR (gA bs i) g v h') (fun i => (law_attribute_cl bs t i ti).post fun g v h hr => by rw [attr_same]; exact hr) z
theorem law_name_clE (d : Addr) (o : Obj) (x : Str) (t : Tok) : Cl w mean mg mb 2 143 [.ref d, .str x t] (fun h => x.length ≤ 1000000 ∧ h.get? d = some o ∧ TabObj w o knownT ∧ (d == sysModules) = false) (fun _ v _ => optR (encE x) v) :=
  (law_name_cl d o knownT x t).post fun _ _ _ hr => optR_enc hr
theorem law_mixed_cl3 (x : Str) (t : Tok) (z : Int) (tz : Tok) : Cl w mean mg mb 2 148 [.str x t, .int z tz] (fun h => x.length ≤ 1000) (fun _ v _ => ∃ t', v = .str (mixS x z) t' ∧ (mixS x z).length ≤ 3 * x.length) :=
  (law_mixed_cl x t z tz).post fun _ _ _ ⟨t', e⟩ => ⟨t', e, mixS_le x z⟩
theorem mix_len {n : Str} (h : n.length ≤ 64) : (PySem.Str.ofString " " ++ mixS n 0).length ≤ 1000000 := by
  rw [len_app]
  have h1 := mixS_le n 0
  have h2 : (PySem.Str.ofString " ").length = 1 := by decide +kernel
  omega
abbrev SW := Int × Tok × Option Value
abbrev mpW (M : Str → Option Value) : SW → Str → Option Value := fun c y => if y = PySem.Str.ofString "at" then some (.int c.1 c.2.1) else if y = PySem.Str.ofString "told" then c.2.2 else M y
def muW (c : SW) : Nat := if c.1 < 0 then 0 else (20 - c.1).toNat
theorem my_whileG {σ : Type} {prog : Program} {A : Around} {E : Value → Shared → Prop} {s : Shared} {env : Env} {h₀ : Heap} {body : List Stmt} {Q : Flow → Shared → Prop} {test : PySem.Expr} {orelse : List Stmt} {pos : Pos} {L : Addr} {m₀ : Str → Option Value} {news : List (Addr × Obj)} (G : (Str → Option Value) → σ → Str → Option Value) (P : σ → Prop) (μ : σ → Nat) (c₀ : σ)
    (F : Fr h₀ L s.heap m₀) (N : News h₀ L s.heap news) (hm : ∀ z, m₀ z = G m₀ c₀ z) (hp : P c₀)
    (turn : ∀ c h tk, P c → Fr h₀ L h (G m₀ c) → News h₀ L h news →
      wpAny (model prog w) A (isTrue test env (eval test env)) (fun b s₂ => if b = true then wpAny (model prog w) A (execs body env) (WPost h₀ L (fun _ => news) (G m₀) (fun c' => P c' ∧ μ c' < μ c) { s with heap := h, toks := tk } Q) E s₂
        else wpAny (model prog w) A (execs orelse env) Q E s₂) E { s with heap := h, toks := tk })
    (hE : PassesOwn (model prog w) A env E := by passes_own) :
    wpAny (model prog w) A (exec (.While test body orelse pos) env) Q E s :=
  my_while (fun _ => news) (G m₀) P μ c₀ F N (fun _ h => h) hm hp turn hE
theorem mpW_start {M : Str → Option Value} {z : Int} {t : Tok} {v : Option Value} (h1 : M (PySem.Str.ofString "at") = some (.int z t)) (h2 : M (PySem.Str.ofString "told") = v) : ∀ y, M y = mpW M (z, t, v) y := fun y => by
  show _ = if y = _ then some (.int z t) else if y = _ then v else M y
  by_cases e1 : y = PySem.Str.ofString "at"
  · rw [if_pos e1, e1, h1]
  · rw [if_neg e1]
    by_cases e2 : y = PySem.Str.ofString "told"
    · rw [if_pos e2, e2, h2]
    · rw [if_neg e2]
theorem my_ne_tup {prog : Program} {A : Around} {E : Value → Shared → Prop} {s : Shared} {h₀ : Heap} {L a b : Addr} {news : List (Addr × Obj)} {Q : Value → Shared → Prop} {n u : Str} {p : Int} {t1 t2 t3 t4 t5 t6 : Tok} (N : News h₀ L s.heap news) (h1 : (a, tupO [.str n t1, .str u t2, .int p t3]) ∈ news) (h2 : (b, tupO [.str n t4, .str u t5, .int p t6]) ∈ news) (hn : PySem.PyData.strOk n = true) (hu : PySem.PyData.strOk u = true) (hU : A.units + 64 < cLine) (h : Q (.bool false) s) : wpAny (model prog w) A (compareOp .NotEq (.ref a) (.ref b)) Q E s := by
  have hsh : SeqAt.shaped (.tuple [.str n, .str u, .int p]) = true := by simp [SeqAt.shaped, PyData.canLay0, PyData.canLayAll0, PyData.depth, PyData.depthAll, hn, hu]
  refine ne_dataH (reads_tuple_at (News.get N h1) rfl rfl (.cons (.str _ _) (.cons (.str _ _) (.cons (.int _ _) .nil)))) (reads_tuple_at (News.get N h2) rfl rfl (.cons (.str _ _) (.cons (.str _ _) (.cons (.int _ _) .nil)))) hsh hsh hU ?_
  have e : PyData.eqv (.tuple [.str n, .str u, .int p]) (.tuple [.str n, .str u, .int p]) = true := by simp [PyData.eqv, PyData.eqvAll]
  rw [e]; exact h
theorem mpW_end {x : Str} {M : Str → Option Value} {z z' : Int} {t t' : Tok} {v v' : Option Value} : ∀ y, True → (if y = PySem.Str.ofString "at" then some (.int z t) else if y = PySem.Str.ofString "told" then v else mpW M (z', t', v') y) = mpW M (z, t, v) y := fun y _ => by
  show _ = if y = _ then some (.int z t) else if y = _ then v else M y
  by_cases e1 : y = PySem.Str.ofString "at"
  · rw [if_pos e1, if_pos e1]
  · rw [if_neg e1, if_neg e1]
    by_cases e2 : y = PySem.Str.ofString "told"
    · rw [if_pos e2, if_pos e2]
    · rw [if_neg e2, if_neg e2]
      show (if y = _ then _ else if y = _ then _ else M y) = M y
      rw [if_neg e1, if_neg e2]
theorem mu_neg {z : Int} {t t' : Tok} {v v' : Option Value} (h0 : 0 ≤ z) (h1 : z ≤ 18) : muW (-1, t, v) < muW (z, t', v') := by
  unfold muW
  show (if (-1 : Int) < 0 then 0 else _) < if z < 0 then 0 else (20 - z).toNat
  rw [if_pos (by decide), if_neg (by omega)]
  omega
theorem mu_up {z p : Int} {t t' : Tok} {v v' : Option Value} (h0 : 0 ≤ z) (h1 : z ≤ 18) (h2 : (z.toNat : Int) < p) (h3 : p ≤ 16) : muW (p, t, v) < muW (z, t', v') := by
  unfold muW
  show (if p < 0 then 0 else (20 - p).toNat) < if z < 0 then 0 else (20 - z).toNat
  rw [if_neg (by omega), if_neg (by omega)]
  omega
theorem in_snoc {ms : List Int} {n : Nat} (h : KBa.In ms) (hn : n < 256) : KBa.In (ms ++ [(n : Int)]) := by
  intro k hk
  rcases List.mem_append.mp hk with hk | hk
  · exact h k hk
  · rw [List.mem_singleton.mp hk]; omega
theorem ne3 {a b c x : Addr} {oa ob oc : Obj} (h : ∀ p ∈ [(a, oa), (b, ob), (c, oc)], p.1 ≠ x) : (@Ne Nat a x) ∧ (@Ne Nat b x) ∧ (@Ne Nat c x) :=
  ⟨h _ (.head _), h _ (.tail _ (.head _)), h _ (.tail _ (.tail _ (.head _)))⟩
theorem linesF16_1 : True := by
  k_with "call ref" => first | ((k_here; with_reducible refine my_at 131 ?_); k_dflt ((refine' Cl.useP (law_known_cl) ?k1 ?k2 ?k3 ?k4 ?k5 ?kK ?kd ?ku ?kp ?_; (case k1 => k_asm); (case k2 => k_asm); (case k3 => k_asm); (case k4 => k_asm); (case k5 => k_asm); (case kK => first | exact rfl | assumption); (case kd => (try dsimp only); omega); (case ku => (try dsimp only); omega)); (case kp => first | exact trivial | k_asm); k_whole); intro v9 h9 tk9 F9 N9 r9; (obtain ⟨o9, a9, e9, ha9, hg9, hT9, hm9⟩ := r9); (cases e9); (have N10 := news_new hg9 (by assumption) ha9 N9); (have hne9 := ne3 (news_ne hg9 (by assumption))); (clear N9 ha9 hg9); (try k_sweep)) | ((k_here; with_reducible refine my_at 117 ?_); k_dflt ((refine' Cl.useS (law_digit_cl _ _ _ _ _) ?k1 ?k2 ?k3 ?k4 ?k5 ?kK ?kd ?ku ?kp ?_; (case k1 => k_asm); (case k2 => k_asm); (case k3 => k_asm); (case k4 => k_asm); (case k5 => k_asm); (case kK => first | exact rfl | assumption); (case kd => (try dsimp only); omega); (case ku => (try dsimp only); omega)); (case kp => (with_reducible refine kpD' (by k_asm) (by assumption) (by assumption) (by assumption) (by omega))); k_whole); (intro h9 tk9 F9 N9 t9; try k_sweep)) | ((k_here; with_reducible refine my_at 155 ?_); k_dflt ((refine' Cl.useY (law_spoiled_cl _ _ _ _) ?k1 ?k2 ?k3 ?k4 ?k5 ?kK ?kd ?ku ?kp ?_; (case k1 => k_asm); (case k2 => k_asm); (case k3 => k_asm); (case k4 => k_asm); (case k5 => k_asm); (case kK => first | exact rfl | assumption); (case kd => (try dsimp only); omega); (case ku => (try dsimp only); omega)); (case kp => (exact Nat.le_trans (keys_short _ (by with_reducible assumption)) (by decide))); k_whole); (intro h9 tk9 F9 N9 y9 t9 hl9; try k_sweep)) | ((k_here; with_reducible refine my_at 165 ?_); k_dflt ((refine' Cl.useY (law_text_cl _ _ _ _ _) ?k1 ?k2 ?k3 ?k4 ?k5 ?kK ?kd ?ku ?kp ?_; (case k1 => k_asm); (case k2 => k_asm); (case k3 => k_asm); (case k4 => k_asm); (case k5 => k_asm); (case kK => first | exact rfl | assumption); (case kd => (try dsimp only); omega); (case ku => (try dsimp only); omega)); (case kp => (with_reducible refine kpT' (by k_asm) (by assumption) (by assumption) (by assumption) (by assumption))); k_whole); (intro h9 tk9 F9 N9 y9 t9 hl9; try k_sweep)) | ((k_here; with_reducible refine my_at 110 ?_); k_dflt ((refine' Cl.useP (content_charset_cl _ _) ?k1 ?k2 ?k3 ?k4 ?k5 ?kK ?kd ?ku ?kp ?_; (case k1 => k_asm); (case k2 => k_asm); (case k3 => k_asm); (case k4 => k_asm); (case k5 => k_asm); (case kK => first | exact rfl | assumption); (case kd => (try dsimp only); omega); (case ku => (try dsimp only); omega)); (case kp => first | exact trivial | k_asm); k_whole); intro v9 h9 tk9 F9 N9 r9; (obtain ⟨rc, hrc, hoc⟩ := r9); (try k_sweep)) | ((k_here; with_reducible refine my_at 160 ?_); k_dflt ((refine' Cl.useP (law_content_cl _ _ _ _ _) ?k1 ?k2 ?k3 ?k4 ?k5 ?kK ?kd ?ku ?kp ?_; (case k1 => k_asm); (case k2 => k_asm); (case k3 => k_asm); (case k4 => k_asm); (case k5 => k_asm); (case kK => first | exact rfl | assumption); (case kd => (try dsimp only); omega); (case ku => (try dsimp only); omega)); (case kp => (refine ⟨by with_reducible assumption, News.get (by k_asm) (by k_mem), by with_reducible assumption, by with_reducible assumption⟩)); k_whole); intro v9 h9 tk9 F9 N9 r9; (obtain ⟨rl, hrl, hol⟩ := r9); (have hsame := content_same (by with_reducible assumption) hrl); (subst hsame); (try k_sweep)) | ((k_here; with_reducible refine my_at 96 ?_); k_dflt ((refine' Cl.useP (get_attribute_clZ _ _ _ _) ?k1 ?k2 ?k3 ?k4 ?k5 ?kK ?kd ?ku ?kp ?_; (case k1 => k_asm); (case k2 => k_asm); (case k3 => k_asm); (case k4 => k_asm); (case k5 => k_asm); (case kK => first | exact rfl | assumption); (case kd => (try dsimp only); omega); (case ku => (try dsimp only); omega)); (case kp => (refine ⟨by omega, by omega⟩)); k_whole); intro v9 h9 tk9 F9 N9 r9; (rcases gaR_cases r9 with ⟨hq9, e9⟩ | ⟨n9, u9, p9, t91, t92, t93, a9, hq9, e9, ha9, hg9⟩; (cases e9); rotate_left; (cases e9); (have N10 := news_new hg9 (by assumption) ha9 N9); (clear N9 ha9 hg9); rotate_left); (try k_sweep)) | ((k_here; with_reducible refine my_at 172 ?_); k_dflt ((refine' Cl.useP (law_attribute_clZ _ _ _ _) ?k1 ?k2 ?k3 ?k4 ?k5 ?kK ?kd ?ku ?kp ?_; (case k1 => k_asm); (case k2 => k_asm); (case k3 => k_asm); (case k4 => k_asm); (case k5 => k_asm); (case kK => first | exact rfl | assumption); (case kd => (try dsimp only); omega); (case ku => (try dsimp only); omega)); (case kp => (refine ⟨by omega, by omega⟩)); k_whole); intro v9 h9 tk9 F9 N9 r9; (first | (have e9 := gaR_none' r9 (by with_reducible assumption); cases e9) | (obtain ⟨t91, t92, t93, a9, e9, ha9, hg9⟩ := gaR_some' r9 (by with_reducible assumption); (cases e9); (have N10 := news_new hg9 (by assumption) ha9 N9); (clear N9 ha9 hg9))); (try k_sweep)) | ((k_here; with_reducible refine my_at 63 ?_); k_dflt ((refine' Cl.useP (encoding_of_cl _ _) ?k1 ?k2 ?k3 ?k4 ?k5 ?kK ?kd ?ku ?kp ?_; (case k1 => k_asm); (case k2 => k_asm); (case k3 => k_asm); (case k4 => k_asm); (case k5 => k_asm); (case kK => first | exact rfl | assumption); (case kd => (try dsimp only); omega); (case ku => (try dsimp only); omega)); (case kp => (first | omega | exact mix_len (by with_reducible assumption))); k_whole); (intro v9 h9 tk9 F9 N9 r9; try k_sweep)) | ((k_here; with_reducible refine my_at 143 ?_); k_dflt ((refine' Cl.useP (law_name_clE _ _ _ _) ?k1 ?k2 ?k3 ?k4 ?k5 ?kK ?kd ?ku ?kp ?_; (case k1 => k_asm); (case k2 => k_asm); (case k3 => k_asm); (case k4 => k_asm); (case k5 => k_asm); (case kK => first | exact rfl | assumption); (case kd => (try dsimp only); omega); (case ku => (try dsimp only); omega)); (case kp => (refine ⟨by omega, News.get (by k_asm) (by k_mem), by with_reducible assumption, by with_reducible assumption⟩)); k_whole); (intro v9 h9 tk9 F9 N9 r9; try k_sweep)) | ((k_here; with_reducible refine my_at 148 ?_); k_dflt ((refine' Cl.useP (law_mixed_cl3 _ _ _ _) ?k1 ?k2 ?k3 ?k4 ?k5 ?kK ?kd ?ku ?kp ?_; (case k1 => k_asm); (case k2 => k_asm); (case k3 => k_asm); (case k4 => k_asm); (case k5 => k_asm); (case kK => first | exact rfl | assumption); (case kd => (try dsimp only); omega); (case ku => (try dsimp only); omega)); (case kp => (show (_ : Nat) ≤ _; omega)); k_whole); intro v9 h9 tk9 F9 N9 r9; (obtain ⟨t9, e9, hm9⟩ := r9); (cases e9); (try k_sweep))
  k_with "call type:list" => (k_here; (with_reducible show wpAny _ _ (call (Value.type "list") [Value.ref _]) _ _ _); (with_reducible rename Fr _ _ _ _ => F'); (with_reducible rename News _ _ _ _ => N'); (with_reducible rename TabObj _ _ _ => T'); k_dflt (refine' my_listKeys F' N' (List.Mem.head _) T' ?k1 ?k2 known_len ?_; (case k1 => with_reducible assumption); (case k2 => exact rfl)); intro B9 c9 h9 tk9 vs9 hs9 F9 N9 l9; (try k_lt l9); (try k_sweep))
  k_with "call builtin:len" => (k_here; (with_reducible show wpAny _ _ (call (Value.builtin "len") [Value.ref _]) _ _ _); (with_reducible rename News _ _ _ _ => N'); (with_reducible rename StrsAre _ _ => S'); k_dflt (refine' my_lenS N' ?k1 S' keys_len (by decide) ?_; (case k1 => k_mem)))
  k_with "subscriptTail Name BinOp" => (k_here; (with_reducible show wpAny _ _ (subscriptTail _ _ (Value.ref _) (Value.int (Int.fmod _ _) _)) _ _ _); (with_reducible rename News _ _ _ _ => N'); (with_reducible rename StrsAre _ _ => S'); k_dflt (refine' my_word N' ?k1 S' keys_len ?m0 ?m1 (by decide) ?_; (case k1 => k_mem); (case m0 => exact Int.fmod_nonneg_of_pos _ (by decide)); (case m1 => exact Int.fmod_lt_of_pos _ (by decide))); intro y9 t9 hy9)
  k_with "compareOp NotEq" => (k_here; (with_reducible refine my_ne_opt (by assumption) (by assumption) ?_))
  k_with "newList" => (k_here; (with_reducible show wpAny _ _ (newList (Value.int _ _ :: Value.int _ _ :: _)) _ _ _); k_dflt (refine' my_newInts ?k1 ?k2 ?k3 ?k4 ?_; (case k1 => k_asm); (case k2 => k_asm); (case k3 => repeat (first | exact IntsAre.nil | refine IntsAre.cons _ _ ?_)); (case k4 => simp only [List.length_cons, List.length_nil]; decide); k_whole); intro l' h' vs9 hi9 F' N' l1; (simp only [List.map_cons, List.map_nil, vInt] at hi9); (try k_lt l1); (try k_sweep))
  k_with "call builtin:ord" => (k_here; (with_reducible show wpAny _ _ (call (Value.builtin "ord") [Value.str (Txt.item _ _) _]) _ _ _); k_dflt (refine my_ord (by decide +kernel) ?_); intro n9 t9 k9 hn9)
  k_with "call type:bytes" => (k_here; (with_reducible show wpAny _ _ (call (Value.type "bytes") [Value.ref _]) _ _ _); (with_reducible rename Fr _ _ _ _ => F'); (with_reducible rename News _ _ _ _ => N'); k_dflt (refine' my_bytes F' N' (List.Mem.head _) rfl ?k1 ?_; (case k1 => with_reducible assumption)); intro h9 t9 k9 bs9 hb9 F9 N9; (try k_sweep))
  k_with "subscriptTail Name Subscript" => (k_here; (with_reducible show wpAny _ _ (subscriptTail _ _ (Value.ref _) (Value.str _ _)) _ _ _); (with_reducible rename News _ _ _ _ => N'); (with_reducible rename TabObj _ _ _ => T'); (with_reducible rename (_ ∈ keysT) => hk'); (obtain ⟨n9, hn9⟩ := keys_look hk'); (have hs9 := names_same hn9); (obtain ⟨hs91, hs92, hs93⟩ := hs9); k_dflt (refine' my_item N' ?k1 T' ?k2 hn9 ?_; (case k1 => k_mem); (case k2 => with_reducible assumption)); intro t9)
  k_with "compareOp NotEq" => (k_here; (with_reducible show wpAny _ _ (compareOp CmpOp.NotEq (Value.ref _) (Value.ref _)) _ _ _); (with_reducible rename News _ _ _ _ => N'); (with_reducible rename (gA _ _ = some _) => hq'); k_dflt (refine' my_ne_tup N' (List.Mem.tail _ (List.Mem.head _)) (List.Mem.head _) (attr_ok hq').1 (attr_ok hq').2 ?k1 ?_; (case k1 => (try dsimp only); omega)))
  k_with "compareOp Eq" => (k_here; (with_reducible refine my_eq_opt (by assumption) (by assumption) ?_))
  k_with "eval ListComp" => refine Stop.out ?_
  k_with "exec While Compare cons nil" => refine Stop.out ?_
  k_with "CompSrc" => refine Stop.out ?_
  trivial
theorem law_body (l : Addr) (vs : List Value) (ns : List Int) : BodyOf w mean mg mb 30 177 [(PySem.Str.ofString "script", .ref l)] (fun h => h.IsList l vs.toArray ∧ IntsAre vs ns ∧ ns.length ≤ 63) (fun _ v _ => v = .bool true) := by
  refine bodyOf_intro (by k_is) ?_
  intro f cdv dp un gd outer A₀ base g L h₁ cells s B' F' X' N' Y' T' hdp hun hpre hs
  subst hs
  k_cells Y'
  (try simp only [List.cons_append, List.nil_append] at N')
  (try k_unmd)
  (try dsimp only)
  (try k_unmd)
  k_fold
  obtain ⟨hl, hi, hn⟩ := hpre
  k_steps
  rename Fr _ _ _ _ => F1
  rename News _ _ _ _ => N1
  unfold Stop
  refine LCg.ListComp_U (F₀ := F1) (by with_unfolding_all rfl) (by decide) (by rfl) (by decide) (by rfl) ?_
  k_steps
  unfold Stop
  rename Fr _ _ _ _ => F2
  rename News _ _ _ _ => N2
  rename IsRange _ _ _ _ _ _ _ _ => hr
  refine CompSrc.range rfl F2 N2 hr (by decide) (n := 16) (by decide) (by rw [PySem.sizeLine_eq]; omega) ?_
  intro g'
  refine my_rest (fun i ys => ∃ ms, IntsAre ys ms ∧ KBa.In ms ∧ ms.length = i) trivial ?_ ?_ _ 0 [] (Nat.zero_add _) ⟨[], .nil, fun _ h => (nomatch h), rfl⟩
  · rintro i ys v I oI C oC D m₂ h tk E' hi' ⟨tv, rfl⟩ ⟨ms, hv, hin, hv2⟩ hNs hxv F N off hne
    k_fold
    k_steps
    with_reducible rename ((_ : Nat) < 256) => hn9
    ((try dsimp only); (rename Fr _ _ _ _ => Fe); (rename News _ _ _ _ => Ne); refine CEnd.intro Fe Ne (by with_unfolding_all k_allIn) ?_)
    exact ⟨ms ++ [_], hv.append (.cons _ _ .nil), in_snoc hin hn9, by rw [List.length_append, hv2]; rfl⟩
  · rintro ys h16 D h tk F N off
    k_steps
    with_reducible rename Fr _ _ _ _ => F3
    with_reducible rename News _ _ _ _ => N3
    with_reducible rename (List.length _ = 16) => hb16
    unfold Stop
    with_reducible refine my_whileG (σ := SW) mpW (fun c => c.1 ≤ 18 ∧ -1 ≤ c.1) muW (?a0, ?a1, none) F3 N3 ?hm ?hp ?turn ?hE
    case hm => exact mpW_start (by rfl) (by rfl)
    case hE => with_unfolding_all passes_own
    case hp =>
      exact ⟨Int.le_of_lt (Int.lt_of_lt_of_le (Int.fmod_lt_of_pos _ (by decide)) (by decide)), Int.le_trans (by decide) (Int.fmod_nonneg_of_pos _ (by decide))⟩
    case turn =>
      rintro ⟨z, tz, tt⟩ h tk ⟨hc1, hc2⟩ F N
      dsimp only at hc1 hc2
      dsimp only
      k_fold
      k_steps
      · with_reducible rename (0 ≤ z) => hz
        (try dsimp only [WPost])
        with_reducible rename Fr _ _ _ _ => Fe
        with_reducible rename News _ _ _ _ => Ne
        refine WEnd.intro (-1, _, _) Fe Ne (fun p hp => hp) (mpW_end (x := PySem.Str.ofString "at")) ⟨⟨by show (-1 : Int) ≤ 18; decide, by show (-1 : Int) ≤ -1; decide⟩, mu_neg hz hc1⟩
      · with_reducible rename (0 ≤ z) => hz
        with_reducible rename (gA _ _ = some _) => hq
        obtain ⟨b1, b2⟩ := attr_bound hq
        rw [hb16] at b2
        (try dsimp only [WPost])
        with_reducible rename Fr _ _ _ _ => Fe
        with_reducible rename News _ _ _ _ => Ne
        refine WEnd.intro (_, _, _) Fe Ne (fun p hp => List.Mem.tail _ (List.Mem.tail _ hp)) (mpW_end (x := PySem.Str.ofString "at")) ⟨⟨Int.le_trans b2 (by decide), Int.le_trans (by decide) (Int.le_of_lt (Int.lt_of_le_of_lt (Int.natCast_nonneg _) b1))⟩, mu_up hz hc1 b1 b2⟩
      · ((try dsimp only [MyPost, WPost, XPost]); (try k_unfold); (try dsimp only [MyPost, WPost, XPost]); (try k_unfold); (try dsimp only [MyPost, WPost, XPost]); (try k_unfold); (try dsimp only); refine Done.intro (by assumption) ?_)
        rfl
end Mine
end
section
open PySem PySem.W PyProof.Rows PySem.Calls PyProof.Rows.LCg
set_option maxRecDepth 100000
set_option maxHeartbeats 8000000
namespace Mine
theorem sectF17 : True := by
  w_top off
  k_with_none
  trivial
theorem goodW_keep {c : ClaimW} {cl : Str → Option Addr} {mean : ExcName → Option Value} {args : List WData} {s₁ s' : Shared} {b : Bool} (hk : ∀ a o, s₁.heap.get? a = some o → s'.heap.get? a = some o) (hg : s'.gens = #[]) (hn : ∀ cls, c.raises args cls = false) (hp : c.post args (.bool b) args = true) (hos : s'.os = s₁.os) :
    GoodW c cl mean args s₁ (.ok (.ret (.bool b))) s' := ⟨.inl ⟨_, _, _, rfl, hn, .bool b, hp, unshared_nil⟩, hk, hos, hg⟩
theorem top_use {w : World} {mean : ExcName → Option Value} {mg mb : Str → Option Value} {name : Str} {params : Arguments} {body : List Stmt} {scope : Scope} {dV kV doc pm cdv₀ ct oc : Value} {an od : Option Addr} {osl : Array (Option Value)}
    {fa : Addr} {cdv : Value} {l : Addr} {vs : List Value} {ns : List Int} {g : Heap} {cells : List (Addr × Obj)} {s : Shared} {Q : Flow → Shared → Prop} {E : Value → Shared → Prop}
    (ho : (hd.heap_1_1 w.params).lookup 177 = some ⟨oc, od, .func (fnOf name name params body scope dV kV doc pm an cdv₀ ct), osl⟩)
    (B : Below callerA g [] g) (F : Fr g g.objs.size s.heap (bindL (envOfC name scope g.objs.size fa cdv).kindOf [(PySem.Str.ofString "script", .ref l)] fun _ => none)) (X : (hd.heap_1_1 w.params).In g) (N : News g g.objs.size s.heap cells)
    (Y : CellsAre (bindC (envOfC name scope g.objs.size fa cdv).kindOf [(PySem.Str.ofString "script", .ref l)] fun _ => none) (cellsFrom (g.objs.size + 1) scope.names []) cells) (T : Top hd.view_1_2 (looseW hd.view_1_2 []) mean mg mb g)
    (hl : g.IsList l vs.toArray) (hi : IntsAre vs ns) (hn : ¬ ((63 : Nat) : Int) < (ns.length : Int))
    (hQ : ∀ h' tk', (∀ a o, g.get? a = some o → h'.get? a = some o) → Q (.ret (.bool true)) { s with heap := h', toks := tk' }) :
    wpAny (model PR w) (callerA.deeper (envOfC name scope g.objs.size fa cdv)) (execs body (envOfC name scope g.objs.size fa cdv)) Q E s := by
  have key := law_body (w := w) (mean := mean) (mg := mg) (mb := mb) l vs ns name params body scope dV kV doc pm cdv₀ ct oc an od osl ho fa cdv (1 + claimMargin + 1) 7 (some []) [] callerA g g g.objs.size s.heap cells s B F X N Y T (by decide) (by decide) ⟨hl, hi, by omega⟩ rfl
  refine wpAny_mono key (fun fl s' hd => ?_) fun _ _ x => x.elim
  obtain ⟨h', tk', rfl, hk, hR⟩ := hd
  have e : (match fl with | .ret v => v | _ => Value.none) = .bool true := hR
  cases fl with
  | ret v =>
    have e2 : v = .bool true := e
    subst e2
    exact hQ h' tk' hk
  | next => cases e
  | brk => cases e
  | cont => cases e
theorem main.tw7305227366249400316 : True := trivial
theorem main.tw1439166485080882 : True := trivial
theorem main.tw4293808307108759278 : True := trivial
theorem main.tw11156056980113079860 : True := trivial
theorem main.tw7699798408344515789 : True := trivial
theorem main.tw1270039299266317192 : True := trivial
theorem main.tw17974016328880235120 : True := trivial
theorem main.tw1632041292262086317 : True := trivial
theorem main.tw13224007501803129859 : True := trivial
theorem main.tw16519101796099990279 : True := trivial
theorem main.tw16572128252103988241 : True := trivial
theorem main.tw16153842264607907944 : True := trivial
theorem main.tw13777938177461255882 : True := trivial
theorem main.tw15768048840197415361 : True := trivial
theorem main.tw3045742163950154196 : True := trivial
theorem main.tw15131278010643852716 : True := trivial
theorem main.tw4261964983698606537 : True := trivial
theorem main.tw5613160597433933154 : True := trivial
theorem main.tw16798622893749714585 : True := trivial
theorem main.tw7875838824674609581 : True := trivial
theorem main.tw5532463470591059822 : True := trivial
theorem main.tw4681395471914393968 : True := trivial
theorem main.tw16778611742570070204 : True := trivial
theorem main.tw14771111431291430275 : True := trivial
theorem main.tw1615956725737779560 : True := trivial
theorem main.tw11101190512080308003 : True := trivial
theorem main.tw6545385358150927430 : True := trivial
theorem main.tw13838900630717943254 : True := trivial
theorem main.tw8466321980469482115 : True := trivial
theorem main.tw4452170602077327944 : True := trivial
theorem main.tw2821470743931037460 : True := trivial
theorem main.tw18442785490491869365 : True := trivial
theorem main.tw16008252555379753968 : True := trivial
theorem main.tw11710404883906591787 : True := trivial
theorem main.tw5400957986263281647 : True := trivial
theorem main.tw8475525182357872103 : True := trivial
theorem main.tw10450603732522932521 : True := trivial
theorem main.tw11554813239044494598 : True := trivial
theorem main.tw17450470499104002142 : True := trivial
theorem main.tw12361340156312767134 : True := trivial
theorem main.tw9840939614602229412 : True := trivial
theorem main.tw16721930046160240684 : True := trivial
theorem main.tw12455012482086183272 : True := trivial
theorem main.tw2496676261509829067 : True := trivial
theorem main.tw3626430660855392483 : True := trivial
theorem main.tw12057704586751987240 : True := trivial
theorem main.tw14907226015203709474 : True := trivial
theorem main.tw6557543464795787104 : True := trivial
theorem main.tw66260789543402106 : True := trivial
theorem main.tw12670839924663504800 : True := trivial
theorem main.tw2906824675625879941 : True := trivial
theorem main.tw13642826006792871662 : True := trivial
theorem main.tw5436791530062809996 : True := trivial
theorem main.tw10047389527955405517 : True := trivial
theorem main.tw2724176850512262202 : True := trivial
theorem main.tw5203219222101121401 : True := trivial
theorem main.tw16832360635688203351 : True := trivial
theorem main.tw5084117380071580128 : True := trivial
theorem main.tw8663697691656813868 : True := trivial
theorem main.tw4637267157515435788 : True := trivial
theorem main.tw5127751686995613262 : True := trivial
theorem main.tw14639212616227390028 : True := trivial
theorem main.tw11982392923317675503 : True := trivial
theorem main.tw387501639795913443 : True := trivial
theorem main.tw8729708805864041840 : True := trivial
theorem main.tw7268301785047649679 : True := trivial
theorem main.tw7761410557224570781 : True := trivial
theorem main.tw5665735395497279834 : True := trivial
theorem main.tw9069182735580402390 : True := trivial
theorem main.tw14439473939278146460 : True := trivial
theorem main.tw17737603089517620647 : True := trivial
theorem main.tw10363585996791799541 : True := trivial
theorem main.tw10234815189450012239 : True := trivial
theorem main.tw17292155258170135553 : True := trivial
theorem main.tw3299218664060906527 : True := trivial
theorem main.tw18134284020713443437 : True := trivial
theorem main.tw14722489848711283861 : True := trivial
theorem main.tw6511744376749373798 : True := trivial
theorem main.tw16251939892948500945 : True := trivial
theorem main.tw10669944970481658594 : True := trivial
theorem main.tw16193401482309157537 : True := trivial
theorem main.tw1777545030009416734 : True := trivial
theorem main.tw8478376212529829071 : True := trivial
theorem main.tw11646826074482590764 : True := trivial
theorem main.tw5396188567872606041 : True := trivial
theorem main.tw4605139254293405059 : True := trivial
theorem main.tw2852251193174398662 : True := trivial
theorem main.tw17561526911342447988 : True := trivial
theorem main.tw16923884221124529275 : True := trivial
theorem main.tw14672674291997333471 : True := trivial
theorem main.tw16049902774474827687 : True := trivial
theorem main.tw4544244032028310869 : True := trivial
theorem main.tw17695171507069755227 : True := trivial
theorem main.tw13402765919934010277 : True := trivial
theorem main.tw2238316416991798583 : True := trivial
theorem main.tw104360540948158410 : True := trivial
theorem main.tw955993832684835811 : True := trivial
theorem main.tw12431731261707249289 : True := trivial
theorem main.tw2969201314262892880 : True := trivial
theorem main.tw15852131098959596157 : True := trivial
theorem main.tw8228058824784995430 : True := trivial
theorem main.tw16826212616301561204 : True := trivial
set_option Elab.async true in
theorem main : PySem.Challenge.rw_nz0089_01.Holds := by
  w_on; o_law; k_head; (case hw => w_witness2)
  show WalkO hd.view_1_2 [] (XL hd.view_1_2 []) (kHook hd.heap_1_1 _ _).says _ _ _ _
  k_go0
  refine' top_use ?zho ?zB ?zF ?zX ?zN ?zY ?zT ?zhl ?zhi ?zhn ?zhQ
  case zF => with_reducible rename Fr _ _ _ _ => F0; with_unfolding_all exact F0
  case zN => with_reducible rename News _ _ _ _ => N0; with_unfolding_all exact N0
  case zY => with_reducible rename CellsAre _ _ _ => Y0; with_unfolding_all exact Y0
  case zX => with_reducible assumption
  case zT => with_reducible assumption
  case zB => with_reducible rename Below _ _ _ _ => B0; exact B0
  case zhl => with_reducible assumption
  case zhi => with_reducible assumption
  case zhn => with_reducible rename (¬ (_ : Int) < _) => hn0; exact hn0
  case zho => k_is
  case zhQ =>
    intro h' tk' hk
    refine goodW_keep hk ?_ (raisesW_false ?_) ?_ rfl
    · assumption
    · wrow_none_raised
    · wrow_post
end Mine
theorem PySem.Challenge.cw_nz0089_01_holds : PySem.Challenge.rw_nz0089_01.Holds := by
  exact Mine.main
end
