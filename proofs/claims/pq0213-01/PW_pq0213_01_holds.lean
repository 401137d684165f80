import PyProof.Rows.All
import Wide.All
import OpenK.AllK
import Wide.FinOn
import KE.KLcPair
import KE.KLcTest
import KE.KTryDeepN
import PyProof.FitsBits
import PyProof.InstLoad
import PyProof.InstStoreFacts
import PyProof.ExcArgsOwn
import PyProof.ExcInit
import PySem.Challenge.RW_pq0213_01
set_option Elab.async false
set_option compiler.extract_closed false
section
open PySem PySem.W PyProof.Rows
set_option maxRecDepth 100000
set_option maxHeartbeats 8000000
namespace Mine
-- The top of the text, run once: the library's own head, its premise said anew.
-- Behind the boot (boot_open), with the library's quick twins of topRun, treeTable, nsMap and openSeen.
abbrev lawRow : OpenRow := PySem.Challenge.rw_pq0213_01.row
abbrev lawProg : Program := PySem.Challenge.rw_pq0213_01.row.toRowW.prog
theorem opening_plain : opening lawProg = plainProg lawProg.main.scope.names := by kernel_rfl
theorem fence_plain (s : Shared) : fenceModules? lawProg s = some s := by kernel_rfl
abbrev topIs (H₀ : Heap) (s : Shared) : Bool := staticsOk (importedModules lawProg.main.body) H₀ s.heap && namesBound lawProg s.heap && gensDone s && laidKept H₀ s.heap
abbrev TopRun (q : Program) (loose : List Str) (Xt : Shared → Bool) {α : Type} (Yf : Shared → α) (Ya : World → α) (N : Nat) : Prop :=
  ∀ w : World, (Nat.ble 600 N, (boot_heap w.params).isNs mainGlobals, fun os : OsState => (PySem.W.Fast.tw14082659384304107361 PySem.W.Fast.tw14364793385576792824 lawProg w (boot_heap w.params).objs.size (PySem.W.Fast.tw8920871248978507458 (boot_heap w.params) mainGlobals "__annotations__") N ⟨boot_heap w.params, Array.mk [], boot_drawn, boot_toks, os⟩ (topStub lawProg)).bind fun s₁ =>
        match topIs (boot_heap w.params) s₁ with
        | true => some (PySem.W.Fast.tw4187177175401517315 q loose (importedModules lawProg.main.body) Xt true s₁, Yf s₁)
        | false => none) = (true, true, fun _ => some (openGood q loose, Ya w))
theorem left_of_topRun {q : Program} {loose : List Str} {Xt : Shared → Bool} {α : Type} {Yf : Shared → α} {Ya : World → α} {N : Nat} (left : TopRun q loose Xt Yf Ya N) : LeftO lawProg q loose Xt Yf Ya N := fun w => by
  have hl := left w
  rw [← PySem.W.Fast.te14082659384304107361, ← PySem.W.Fast.te14364793385576792824, ← PySem.W.Fast.te8920871248978507458, ← PySem.W.Fast.te4187177175401517315] at hl
  obtain ⟨hN, hl⟩ := Prod.mk.inj hl
  obtain ⟨hm, hl⟩ := Prod.mk.inj hl
  obtain ⟨⟨h, gs, dr, k, os⟩, e, e'⟩ := Option.map_eq_some_iff.mp (boot_open opening_plain hN fence_plain w)
  obtain ⟨rfl, rfl, rfl, rfl⟩ : h = boot_heap w.params ∧ gs = Array.mk [] ∧ dr = boot_drawn ∧ k = boot_toks := by simpa using e'
  obtain ⟨s₁, r, e1⟩ := Option.bind_eq_some_iff.mp (congrFun hl os)
  unfold openEnds
  rw [e]
  show (topFrom treeTable lawProg w N ⟨boot_heap w.params, Array.mk [], boot_drawn, boot_toks, os⟩).map _ = _
  unfold topFrom
  dsimp only
  rw [hm, r]
  show (match topIs (boot_heap w.params) s₁ with | true => some s₁ | false => none).map _ = _
  cases hc : topIs (boot_heap w.params) s₁
  · rw [hc] at e1; cases e1
  · rw [hc] at e1; exact e1
end Mine
namespace Mine.PySem.W
-- nearer than the library's of the same name where open_top stands below
def holds_open {q : Program} {loose : List Str} {Xt : Shared → Bool} {XP : (Str → Option Value) → Heap → Prop} {α : Type} {Yf : Shared → α} {Ya : World → α} {YP : World → Heap → Prop} {d : DefRec} {kwd : List (Str × Expr)} {N : Nat} (left : TopRun q loose Xt Yf Ya N) :=
  _root_.PySem.W.holds_open (r := lawRow) (q := q) (loose := loose) (Xt := Xt) (XP := XP) (Yf := Yf) (Ya := Ya) (YP := YP) (d := d) (kwd := kwd) (N := N) (left_of_topRun left)
end Mine.PySem.W
namespace Mine
open_top hd for PySem.Challenge.rw_pq0213_01
end Mine
end
-- Base
section
open PySem PySem.W PySem.Spec PySem.Calls PyProof.Rows
set_option maxRecDepth 100000
namespace Mine

def Kept (h h' : Heap) : Prop := ∀ b o, h.get? b = some o → h'.get? b = some o

/-- a list of ints in the heap -/
def LAt (h : Heap) (l : Addr) (ns : List Int) : Prop := ∃ vs, h.IsList l (List.toArray vs) ∧ IntsAre vs ns

/-- what comes back is a new list of these ints -/
def NewL (out : List Int) (h h' : Heap) (v : Value) : Prop :=
  ∃ r us n, v = .ref r ∧ h.get? r = none ∧ h'.get? r = some (listOf (List.toArray us) n) ∧ IntsAre us out
def IsI (x : Int) (_h _h' : Heap) (v : Value) : Prop := ∃ t, v = .int x t

def Spec (w : World) (mean : ExcName → Option Value) (mg mb : Str → Option Value) (f : Addr) (d : Nat) (vals : List Value) (args : Heap → Prop) (Out : Heap → Heap → Value → Prop) : Prop :=
  ∀ (dp un : Nat) (gd : Option (List Code)) (cn : Str) (cs : Scope) (a : Addr) (ccd : Value) (cl : List (Str × Addr)) (outer : List Env) (A₀ : Around) (base h₀ : Heap) (L : Addr) (m : Str → Option Value) (s : Shared) (Q E : Value → Shared → Prop),
    Below A₀ base outer h₀ → Fr h₀ L s.heap m → (Mine.hd.heap_39 w.params).In h₀ → Top Mine.hd.view_39 (looseW Mine.hd.view_39 []) mean mg mb h₀ → cs.kind = .function → dp + d < recursionLimit → un + 8 * d + 100 < cLine →
    args s.heap →
    (∀ v h' tk', Kept s.heap h' → Out s.heap h' v → Q v { s with heap := h', toks := tk' }) →
    wpAny (model PySem.Challenge.rw_pq0213_01.row.prog w) (ktrTop dp un gd cn cs L a ccd cl outer) (call (.ref f) vals) Q E s

def LeaveP (g : Heap) (R : Result → Shared → Prop) (v : Value) (s' : Shared) : Prop :=
  (∃ L' m', Fr g L' s'.heap m') ∧ R (.ok (.ret v)) s'

section
variable {prog : Program} {w : World} {A A₀ : Around} {s : Shared} {K : Frag} {L : Addr} {h₀ base : Heap} {m mg mb : Str → Option Value} {p : Program} {loose : List Str} {mean : ExcName → Option Value}
theorem code_pure {env : Env} {outer : List Env} {R : Result → Shared → Prop} {name qual : Str} {params : Arguments} {body : List Stmt} {scope : Scope} {dV kV doc pm cdv ct oc : Value} {an od : Option Addr} {osl : Array (Option Value)} {f : Addr} {args : Args} {binds : List (Str × Value)}
    (B : Below A₀ base outer h₀) (F : Fr h₀ L s.heap m) (X₀ : K.In h₀) (T : Top p loose mean mg mb h₀) (hA : A.frames = some (env :: outer)) (hf : env.frame = some L) (hke : env.scope.kind = .function)
    (ho : K.lookup f = some ⟨oc, od, .func (fnOf name qual params body scope dV kV doc pm an cdv ct), osl⟩) (hcd : codeIn K cdv qual = true) (hroom : A.depth < recursionLimit)
    (hbind : BindsTo s (fnOf name qual params body scope dV kV doc pm an cdv ct) args binds) (hloc : ∀ y ∈ binds, scope.names.lookup y.1 = some .local)
    (h : ∀ L' h₁, Fr s.heap L' h₁ (fun y => binds.reverse.lookup y) → News s.heap L' h₁ [] → Below A base (env :: outer) s.heap → K.In s.heap → Top p loose mean mg mb s.heap →
      wpAny (model prog w) (A.deeper (envOf qual scope L' f cdv)) (execs body (envOf qual scope L' f cdv))
        (fun fl s' => LeaveP s.heap R (match fl with | .ret v => v | _ => .none) s')
        (fun e s' => wpAny (model prog w) (A.deeper (envOf qual scope L' f cdv)) (leaving (envOf qual scope L' f cdv) e) (fun _ s'' => R (.error e) s'') (fun e' s'' => R (.error e') s'') s')
        { s with heap := h₁, toks := s.toks + binds.length })
    (hco : scope.isCoroutine = false) (hgen : scope.isGenerator = false) (hk : scope.kind = .function)
    (hcell : ∀ x ∈ scope.names, x.2 ≠ .cell) : codeAny (model prog w) A (.call (.ref f) args) R s := by
  obtain ⟨FG, BG, st, _⟩ := groundX (R := R) B F (News.nil : News h₀ L s.heap []) hA hf hke
  refine codeAny_call_def (fd := fnX name qual params body scope [] dV kV doc pm an cdv ct) (body := body) (binds := binds) hroom ((X₀.keeps F.keep) _ _ ho) rfl (T.nolimit.keeps F.keep) (codeRec_of (X₀.keeps F.keep) hcd) rfl hbind hcell hloc (fun h₁ hns hk₁ => ?_) hco hgen hk
  exact wpAny_mono (h s.heap.objs.size h₁ ⟨hns, fun b o e => hk₁ b o e, Nat.le_refl _⟩
    News.nil BG (X₀.keeps F.keep) (T.keeps F.keep)) (fun fl s' hl => hl.2) fun _ _ y => y
end

/-- the caller's facts behind a call that keeps all -/
theorem fr_kept {h₀ h h' : Heap} {L : Addr} {m : Str → Option Value} (F : Fr h₀ L h m) (k : Kept h h') : Fr h₀ L h' m := F.keeps k
theorem news_kept {h₀ h h' : Heap} {L : Addr} {news : List (Addr × Obj)} (N : News h₀ L h news) (k : Kept h h') : News h₀ L h' news := fun p hp => ⟨k _ _ (N p hp).1, (N p hp).2⟩
theorem news_new {h₀ h h' : Heap} {L r : Addr} {m : Str → Option Value} {news : List (Addr × Obj)} {o : Obj} (F : Fr h₀ L h m) (N : News h₀ L h news) (k : Kept h h') (hr : h.get? r = none) (ho : h'.get? r = some o) :
    News h₀ L h' ((r, o) :: news) ∧ ∀ p ∈ news, p.1 ≠ r := by
  refine ⟨fun p hp => ?_, fun p hp e => ?_⟩
  · rcases List.mem_cons.mp hp with rfl | hp
    · refine ⟨ho, fun e => ?_, ?_⟩
      · obtain ⟨oL, _, _, hL, _⟩ := F.ns
        have e' : r = L := e
        rw [← e', hr] at hL; cases hL
      · cases q : h₀.get? r with
        | none => rfl
        | some o' => have := F.keep _ _ q; rw [hr] at this; cases this
    · exact ⟨k _ _ (N p hp).1, (N p hp).2⟩
  · have := (N p hp).1; rw [e, hr] at this; cases this

theorem leaveP_ {g : Heap} {R : Result → Shared → Prop} {v : Value} {s' : Shared} {L' : Addr} {m' : Str → Option Value} (F : Fr g L' s'.heap m') (k : Kept g s'.heap → R (.ok (.ret v)) s') : LeaveP g R v s' := ⟨⟨L', m', F⟩, k F.keep⟩

theorem lat_base {h₀ h : Heap} {L l : Addr} {m : Str → Option Value} {vs : List Value} {ns : List Int} (F : Fr h₀ L h m) (hl : h₀.IsList l vs.toArray) (hi : IntsAre vs ns) : LAt h l ns :=
  ⟨vs, hl.at fun o e => F.keep l o e, hi⟩
theorem lat_news {h₀ h : Heap} {L l : Addr} {news : List (Addr × Obj)} {vs : List Value} {ns : List Int} {n : Nat} (N : News h₀ L h news) (hm : (l, listOf vs.toArray n) ∈ news) (hi : IntsAre vs ns) : LAt h l ns :=
  ⟨vs, ⟨_, (N _ hm).1, rfl, n, rfl⟩, hi⟩

theorem off1_of {r : Addr} : ∀ {news : List (Addr × Obj)}, (∀ p ∈ news, p.1 ≠ r) → LCg.Off1 r news
  | [], _ => trivial
  | _ :: _, h => ⟨h _ List.mem_cons_self, off1_of fun p hp => h p (List.mem_cons_of_mem _ hp)⟩

section
variable {w : World} {mean : ExcName → Option Value} {mg mb : Str → Option Value} {f : Addr} {d : Nat} {vals : List Value} {args : Heap → Prop}
  {dp un : Nat} {gd : Option (List Code)} {cn : Str} {cs : Scope} {a : Addr} {ccd : Value} {cl : List (Str × Addr)} {outer : List Env} {A₀ : Around} {base h₀ : Heap} {L : Addr} {m : Str → Option Value} {s : Shared} {Q E : Value → Shared → Prop} {news : List (Addr × Obj)}
theorem spec_useL {out : List Int} (C : Spec w mean mg mb f d vals args (NewL out))
    (B : Below A₀ base outer h₀) (F : Fr h₀ L s.heap m) (X : (Mine.hd.heap_39 w.params).In h₀) (N : News h₀ L s.heap news) (T : Top Mine.hd.view_39 (looseW Mine.hd.view_39 []) mean mg mb h₀) (hk : cs.kind = .function) (ha : args s.heap) (hd : dp + d < recursionLimit) (hu : un + 8 * d + 100 < cLine)
    (ret : ∀ r us n h' tk', Fr h₀ L h' m → News h₀ L h' ((r, listOf (List.toArray us) n) :: news) → LCg.Off1 r news → IntsAre us out → Q (.ref r) { s with heap := h', toks := tk' }) :
    wpAny (model PySem.Challenge.rw_pq0213_01.row.prog w) (ktrTop dp un gd cn cs L a ccd cl outer) (call (.ref f) vals) Q E s := by
  refine C dp un gd cn cs a ccd cl outer A₀ base h₀ L m s Q E B F X T hk hd hu ha fun v h' tk' k o => ?_
  obtain ⟨r, us, n, rfl, hr, ho, hi⟩ := o
  obtain ⟨N', l'⟩ := news_new F N k hr ho
  exact ret r us n h' tk' (fr_kept F k) N' (off1_of l') hi
theorem spec_useI {x : Int} (C : Spec w mean mg mb f d vals args (IsI x))
    (B : Below A₀ base outer h₀) (F : Fr h₀ L s.heap m) (X : (Mine.hd.heap_39 w.params).In h₀) (N : News h₀ L s.heap news) (T : Top Mine.hd.view_39 (looseW Mine.hd.view_39 []) mean mg mb h₀) (hk : cs.kind = .function) (ha : args s.heap) (hd : dp + d < recursionLimit) (hu : un + 8 * d + 100 < cLine)
    (ret : ∀ t h' tk', Fr h₀ L h' m → News h₀ L h' news → Q (.int x t) { s with heap := h', toks := tk' }) :
    wpAny (model PySem.Challenge.rw_pq0213_01.row.prog w) (ktrTop dp un gd cn cs L a ccd cl outer) (call (.ref f) vals) Q E s := by
  refine C dp un gd cn cs a ccd cl outer A₀ base h₀ L m s Q E B F X T hk hd hu ha fun v h' tk' k o => ?_
  obtain ⟨t, rfl⟩ := o
  exact ret t h' tk' (fr_kept F k) (news_kept N k)
end

/-- a list of the ledger of a callee that keeps all is new to the caller -/
theorem newL_of {g h : Heap} {L r : Addr} {us : List Value} {out out' : List Int} {n : Nat} {news : List (Addr × Obj)} (N : News g L h news) (hm : (r, listOf (List.toArray us) n) ∈ news) (hi : IntsAre us out) (e : out = out') : NewL out' g h (.ref r) := by
  subst e
  exact ⟨r, us, n, rfl, (N _ hm).2.2, (N _ hm).1, hi⟩

section
variable {prog : Program} {w : World} {A A₀ : Around} {s : Shared} {K : Frag} {L : Addr} {h₀ base : Heap} {m mg mb : Str → Option Value} {p : Program} {loose : List Str} {mean : ExcName → Option Value}
theorem code_pureC {env : Env} {outer : List Env} {R : Result → Shared → Prop} {name qual : Str} {params : Arguments} {body : List Stmt} {scope : Scope} {dV kV doc pm cdv ct oc : Value} {an od : Option Addr} {osl : Array (Option Value)} {f : Addr} {args : Args} {binds : List (Str × Value)}
    (B : Below A₀ base outer h₀) (F : Fr h₀ L s.heap m) (X₀ : K.In h₀) (T : Top p loose mean mg mb h₀) (hA : A.frames = some (env :: outer)) (hf : env.frame = some L) (hke : env.scope.kind = .function)
    (ho : K.lookup f = some ⟨oc, od, .func (fnOf name qual params body scope dV kV doc pm an cdv ct), osl⟩) (hcd : codeIn K cdv qual = true) (hroom : A.depth < recursionLimit)
    (hbind : BindsTo s (fnOf name qual params body scope dV kV doc pm an cdv ct) args binds) (hkind : (binds.all fun y => scope.names.lookup y.1 == some .local || scope.names.lookup y.1 == some .cell) = true)
    (hnd : ((cellsFrom 0 scope.names []).map (·.1)).Nodup)
    (h : ∀ L' h₁ tk cells, Fr s.heap L' h₁ (bindL (envOfC qual scope L' f cdv).kindOf binds fun _ => none) → News s.heap L' h₁ cells →
      CellsAre (bindC (envOfC qual scope L' f cdv).kindOf binds fun _ => none) (cellsFrom (L' + 1) scope.names []) cells → Below A base (env :: outer) s.heap → K.In s.heap → Top p loose mean mg mb s.heap →
      wpAny (model prog w) (A.deeper (envOfC qual scope L' f cdv)) (execs body (envOfC qual scope L' f cdv))
        (fun fl s' => LeaveP s.heap R (match fl with | .ret v => v | _ => .none) s')
        (fun e s' => wpAny (model prog w) (A.deeper (envOfC qual scope L' f cdv)) (leaving (envOfC qual scope L' f cdv) e) (fun _ s'' => R (.error e) s'') (fun e' s'' => R (.error e') s'') s')
        { s with heap := h₁, toks := tk })
    (hco : scope.isCoroutine = false) (hgen : scope.isGenerator = false) (hk : scope.kind = .function) : codeAny (model prog w) A (.call (.ref f) args) R s := by
  obtain ⟨FG, BG, st, _⟩ := groundX (R := R) B F (News.nil : News h₀ L s.heap []) hA hf hke
  refine codeAny_call_function hroom ((X₀.keeps F.keep) _ _ ho) rfl hco hgen rfl (codeRec_of (X₀.keeps F.keep) hcd) (hbind _ _ _ _ ?_)
  refine wpAny_newFunctionEnv_cells hk (kindsX hkind _) fun env' he s' x => ?_
  subst he
  refine ⟨(T.nolimit.keeps F.keep).keeps x.toInCall.keep, codeAny_func ?_⟩
  obtain ⟨h₁, tk, rfl, _⟩ := x.done
  have hk₁ := x.toInCall.keep
  obtain ⟨cells, NC, Y⟩ := Cl.news (h₀ := s.heap) (Nat.le_refl _) fun n c hm => ⟨x.cell n c (lookup_of_mem_nodup (cellsFrom_names scope.names 0 (s.heap.objs.size + 1) [] [] rfl ▸ hnd) hm), x.above n c hm⟩
  exact wpAny_mono (h s.heap.objs.size h₁ tk cells ⟨x.toInCall.ns, fun b o e => hk₁ b o e, Nat.le_refl _⟩ NC Y BG (X₀.keeps F.keep) (T.keeps F.keep)) (fun fl s' hl => hl.2) fun _ _ y => y
end

theorem newL_ofC {g h : Heap} {r : Addr} {us : List Value} {out out' : List Int} {news : List (Addr × Obj)} (hr : g.get? r = none) (hp : NewPlain h news r us.toArray) (hi : CarriedAll us (out.map PyData.int)) (e : out = out') : NewL out' g h (.ref r) := by
  subst e
  obtain ⟨⟨n, e⟩, _⟩ := hp
  exact ⟨r, us, n, rfl, hr, e, IntsAre.ofCarried hi⟩
def IsNone (_h _h' : Heap) (v : Value) : Prop := v = .none
section
variable {w : World} {mean : ExcName → Option Value} {mg mb : Str → Option Value} {f : Addr} {d : Nat} {vals : List Value} {args : Heap → Prop}
  {dp un : Nat} {gd : Option (List Code)} {cn : Str} {cs : Scope} {a : Addr} {ccd : Value} {cl : List (Str × Addr)} {outer : List Env} {A₀ : Around} {base h₀ : Heap} {L : Addr} {m : Str → Option Value} {s : Shared} {Q E : Value → Shared → Prop} {news : List (Addr × Obj)}
theorem spec_useN (C : Spec w mean mg mb f d vals args IsNone)
    (B : Below A₀ base outer h₀) (F : Fr h₀ L s.heap m) (X : (Mine.hd.heap_39 w.params).In h₀) (N : News h₀ L s.heap news) (T : Top Mine.hd.view_39 (looseW Mine.hd.view_39 []) mean mg mb h₀) (hk : cs.kind = .function) (ha : args s.heap) (hd : dp + d < recursionLimit) (hu : un + 8 * d + 100 < cLine)
    (ret : ∀ h' tk', Fr h₀ L h' m → News h₀ L h' news → Q .none { s with heap := h', toks := tk' }) :
    wpAny (model PySem.Challenge.rw_pq0213_01.row.prog w) (ktrTop dp un gd cn cs L a ccd cl outer) (call (.ref f) vals) Q E s := by
  refine C dp un gd cn cs a ccd cl outer A₀ base h₀ L m s Q E B F X T hk hd hu ha fun v h' tk' k o => ?_
  have e : v = .none := o
  subst e
  exact ret h' tk' (fr_kept F k) (news_kept N k)
end
theorem gen_tok {α : Type} {M : Model} {A : Around} {t : Sem α} {Q : α → Shared → Prop} {E : Value → Shared → Prop} {h : Heap} {g : Array GenState} {d : Drawn} {X : Nat} {os : OsState} (H : ∀ tk, wpAny M A t Q E ⟨h, g, d, tk, os⟩) : wpAny M A t Q E ⟨h, g, d, X + 1 + 1, os⟩ := H _
end Mine
end
-- Base2
section
open PySem PySem.W PySem.Spec PySem.Calls PyProof.Rows
set_option maxRecDepth 100000
namespace Mine
def IsB (x : Bool) (_h _h' : Heap) (v : Value) : Prop := v = .bool x
def KeptBut (bx : Addr) (h h' : Heap) : Prop := ∀ b o, b ≠ bx → h.get? b = some o → h'.get? b = some o

def SpecB (w : World) (mean : ExcName → Option Value) (mg mb : Str → Option Value) (f : Addr) (d : Nat) (vals : List Value) (bx : Addr) (ob : Obj) (args : Heap → Prop) (Out : Heap → Heap → Obj → Value → Prop) : Prop :=
  ∀ (dp un : Nat) (gd : Option (List Code)) (cn : Str) (cs : Scope) (a : Addr) (ccd : Value) (cl : List (Str × Addr)) (outer : List Env) (A₀ : Around) (base h₀ : Heap) (L : Addr) (m : Str → Option Value) (s : Shared) (Q E : Value → Shared → Prop),
    Below A₀ base outer h₀ → Fr h₀ L s.heap m → (Mine.hd.heap_39 w.params).In h₀ → Top Mine.hd.view_39 (looseW Mine.hd.view_39 []) mean mg mb h₀ → cs.kind = .function → dp + d < recursionLimit → un + 8 * d + 100 < cLine →
    h₀.get? bx = none → bx ≠ L → s.heap.get? bx = some ob → args s.heap →
    (∀ v ob' h' tk', KeptBut bx s.heap h' → h'.get? bx = some ob' → Out s.heap h' ob' v → Q v { s with heap := h', toks := tk' }) →
    wpAny (model PySem.Challenge.rw_pq0213_01.row.prog w) (ktrTop dp un gd cn cs L a ccd cl outer) (call (.ref f) vals) Q E s

def LeaveB (g : Heap) (bx : Addr) (R : Result → Shared → Prop) (v : Value) (s' : Shared) : Prop :=
  (∃ L' m' ob', Fr g L' s'.heap m' ∧ s'.heap.get? bx = some ob') ∧ R (.ok (.ret v)) s'

section
variable {prog : Program} {w : World} {A A₀ : Around} {s : Shared} {K : Frag} {L : Addr} {h₀ base : Heap} {m mg mb : Str → Option Value} {p : Program} {loose : List Str} {mean : ExcName → Option Value}
  {env : Env} {outer : List Env} {R : Result → Shared → Prop} {name qual : Str} {params : Arguments} {body : List Stmt} {scope : Scope} {dV kV doc pm cdv ct oc : Value} {an od : Option Addr} {osl : Array (Option Value)} {f : Addr} {args : Args} {binds : List (Str × Value)} {bx : Addr} {ob : Obj}
theorem newsB (hb0 : h₀.get? bx = none) (hbL : bx ≠ L) (hob : s.heap.get? bx = some ob) : News h₀ L s.heap [(bx, ob)] := fun p hp => by
  rw [List.mem_singleton.mp hp]; exact ⟨hob, hbL, hb0⟩
theorem code_but
    (B : Below A₀ base outer h₀) (F : Fr h₀ L s.heap m) (X₀ : K.In h₀) (T : Top p loose mean mg mb h₀) (hA : A.frames = some (env :: outer)) (hf : env.frame = some L) (hke : env.scope.kind = .function)
    (hb0 : h₀.get? bx = none) (hbL : bx ≠ L) (hob : s.heap.get? bx = some ob)
    (ho : K.lookup f = some ⟨oc, od, .func (fnOf name qual params body scope dV kV doc pm an cdv ct), osl⟩) (hcd : codeIn K cdv qual = true) (hroom : A.depth < recursionLimit)
    (hbind : BindsTo s (fnOf name qual params body scope dV kV doc pm an cdv ct) args binds) (hloc : ∀ y ∈ binds, scope.names.lookup y.1 = some .local)
    (h : ∀ g L' h₁, KeptBut bx s.heap g → Fr g L' h₁ (fun y => binds.reverse.lookup y) → News g L' h₁ [(bx, ob)] → Below A base (env :: outer) g → K.In g → Top p loose mean mg mb g →
      wpAny (model prog w) (A.deeper (envOf qual scope L' f cdv)) (execs body (envOf qual scope L' f cdv))
        (fun fl s' => LeaveB g bx R (match fl with | .ret v => v | _ => .none) s')
        (fun e s' => wpAny (model prog w) (A.deeper (envOf qual scope L' f cdv)) (leaving (envOf qual scope L' f cdv) e) (fun _ s'' => R (.error e) s'') (fun e' s'' => R (.error e') s'') s')
        { s with heap := h₁, toks := s.toks + binds.length })
    (hco : scope.isCoroutine = false) (hgen : scope.isGenerator = false) (hk : scope.kind = .function)
    (hcell : ∀ x ∈ scope.names, x.2 ≠ .cell) : codeAny (model prog w) A (.call (.ref f) args) R s := by
  have N := newsB (L := L) hb0 hbL hob
  obtain ⟨FG, BG, st, _⟩ := groundX (R := R) B F N hA hf hke
  refine codeAny_call_def (fd := fnX name qual params body scope [] dV kV doc pm an cdv ct) (body := body) (binds := binds) hroom ((X₀.keeps F.keep) _ _ ho) rfl (T.nolimit.keeps F.keep) (codeRec_of (X₀.keeps F.keep) hcd) rfl hbind hcell hloc (fun h₁ hns hk₁ => ?_) hco hgen hk
  exact wpAny_mono (h _ s.heap.objs.size h₁ (fun b o hb e => hideAll_get _ e (by simpa using hb)) ⟨hns, fun b o e => hk₁ b o (of_hideAll _ e), Nat.le_of_eq (hideAll_size _ _)⟩
    (fun p hp => ⟨hk₁ _ _ (N p hp).1, Nat.ne_of_lt (Heap.lt_size (N p hp).1), hideAll_none _ (List.mem_map_of_mem hp)⟩) BG (X₀.keeps st) (T.keeps st)) (fun fl s' hl => hl.2) fun _ _ y => y

theorem code_butC
    (B : Below A₀ base outer h₀) (F : Fr h₀ L s.heap m) (X₀ : K.In h₀) (T : Top p loose mean mg mb h₀) (hA : A.frames = some (env :: outer)) (hf : env.frame = some L) (hke : env.scope.kind = .function)
    (hb0 : h₀.get? bx = none) (hbL : bx ≠ L) (hob : s.heap.get? bx = some ob)
    (ho : K.lookup f = some ⟨oc, od, .func (fnOf name qual params body scope dV kV doc pm an cdv ct), osl⟩) (hcd : codeIn K cdv qual = true) (hroom : A.depth < recursionLimit)
    (hbind : BindsTo s (fnOf name qual params body scope dV kV doc pm an cdv ct) args binds) (hkind : (binds.all fun y => scope.names.lookup y.1 == some .local || scope.names.lookup y.1 == some .cell) = true)
    (hnd : ((cellsFrom 0 scope.names []).map (·.1)).Nodup)
    (h : ∀ g L' h₁ tk cells, KeptBut bx s.heap g → Fr g L' h₁ (bindL (envOfC qual scope L' f cdv).kindOf binds fun _ => none) → News g L' h₁ (cells ++ [(bx, ob)]) →
      CellsAre (bindC (envOfC qual scope L' f cdv).kindOf binds fun _ => none) (cellsFrom (L' + 1) scope.names []) cells → Below A base (env :: outer) g → K.In g → Top p loose mean mg mb g → bx < L' →
      wpAny (model prog w) (A.deeper (envOfC qual scope L' f cdv)) (execs body (envOfC qual scope L' f cdv))
        (fun fl s' => LeaveB g bx R (match fl with | .ret v => v | _ => .none) s')
        (fun e s' => wpAny (model prog w) (A.deeper (envOfC qual scope L' f cdv)) (leaving (envOfC qual scope L' f cdv) e) (fun _ s'' => R (.error e) s'') (fun e' s'' => R (.error e') s'') s')
        { s with heap := h₁, toks := tk })
    (hco : scope.isCoroutine = false) (hgen : scope.isGenerator = false) (hk : scope.kind = .function) : codeAny (model prog w) A (.call (.ref f) args) R s := by
  have N := newsB (L := L) hb0 hbL hob
  obtain ⟨FG, BG, st, _⟩ := groundX (R := R) B F N hA hf hke
  refine codeAny_call_function hroom ((X₀.keeps F.keep) _ _ ho) rfl hco hgen rfl (codeRec_of (X₀.keeps F.keep) hcd) (hbind _ _ _ _ ?_)
  refine wpAny_newFunctionEnv_cells hk (kindsX hkind _) fun env' he s' x => ?_
  subst he
  refine ⟨(T.nolimit.keeps F.keep).keeps x.toInCall.keep, codeAny_func ?_⟩
  obtain ⟨h₁, tk, rfl, _⟩ := x.done
  have hk₁ := x.toInCall.keep
  obtain ⟨cells, NC, Y⟩ := Cl.news (h₀ := s.heap) (Nat.le_refl _) fun n c hm => ⟨x.cell n c (lookup_of_mem_nodup (cellsFrom_names scope.names 0 (s.heap.objs.size + 1) [] [] rfl ▸ hnd) hm), x.above n c hm⟩
  refine wpAny_mono (h (hideAll s.heap [bx]) s.heap.objs.size h₁ tk cells (fun b o hb e => hideAll_get _ e (by simpa using hb)) ⟨x.toInCall.ns, fun b o e => hk₁ b o (of_hideAll _ e), Nat.le_of_eq (hideAll_size _ _)⟩ (fun p hp => ?_) Y BG (X₀.keeps st) (T.keeps st) (Heap.lt_size hob)) (fun fl s' hl => hl.2) fun _ _ y => y
  rcases List.mem_append.mp hp with hp | hp
  · refine ⟨(NC p hp).1, (NC p hp).2.1, ?_⟩
    cases q : (hideAll s.heap [bx]).get? p.1 with
    | none => rfl
    | some o => have := of_hideAll _ q; rw [(NC p hp).2.2] at this; cases this
  · exact ⟨hk₁ _ _ (N p hp).1, Nat.ne_of_lt (Heap.lt_size (N p hp).1), hideAll_none _ (List.mem_map_of_mem hp)⟩
end

theorem leaveB_ {g : Heap} {bx : Addr} {R : Result → Shared → Prop} {v : Value} {s' : Shared} {L' : Addr} {m' : Str → Option Value} {news : List (Addr × Obj)} {ob' : Obj} (F : Fr g L' s'.heap m') (N : News g L' s'.heap news) (hm : (bx, ob') ∈ news)
    (k : (∀ b o, g.get? b = some o → s'.heap.get? b = some o) → R (.ok (.ret v)) s') : LeaveB g bx R v s' := ⟨⟨L', m', ob', F, (N _ hm).1⟩, k F.keep⟩

theorem lat_but {bx l : Addr} {h g : Heap} {ns : List Int} (k : KeptBut bx h g) (hne : l ≠ bx) (x : LAt h l ns) : LAt g l ns := by
  obtain ⟨vs, ⟨o, ho, hc, n, hd⟩, hi⟩ := x
  exact ⟨vs, ⟨o, k _ _ hne ho, hc, n, hd⟩, hi⟩

section
variable {w : World} {mean : ExcName → Option Value} {mg mb : Str → Option Value} {f : Addr} {d : Nat} {vals : List Value} {args : Heap → Prop}
  {dp un : Nat} {gd : Option (List Code)} {cn : Str} {cs : Scope} {a : Addr} {ccd : Value} {cl : List (Str × Addr)} {outer : List Env} {A₀ : Around} {base h₀ : Heap} {L : Addr} {m : Str → Option Value} {s : Shared} {Q E : Value → Shared → Prop} {news : List (Addr × Obj)}
theorem fr_but {h₀ h h' : Heap} {L bx : Addr} {m : Str → Option Value} (F : Fr h₀ L h m) (k : KeptBut bx h h') (hL : bx ≠ L) (hb0 : h₀.get? bx = none) : Fr h₀ L h' m := by
  obtain ⟨oL, es, ep, hLo, r⟩ := F.ns
  refine ⟨⟨oL, es, ep, k _ _ (Ne.symm hL) hLo, r⟩, fun b o e => k _ _ (fun q => ?_) (F.keep b o e), F.above⟩
  rw [q, hb0] at e; cases e
theorem spec_useB {bx : Addr} {ob : Obj} {Out : Heap → Heap → Obj → Value → Prop} {g : Obj → List (Addr × Obj)} (C : SpecB w mean mg mb f d vals bx ob args Out)
    (B : Below A₀ base outer h₀) (F : Fr h₀ L s.heap m) (X : (Mine.hd.heap_39 w.params).In h₀) (N : News h₀ L s.heap news) (T : Top Mine.hd.view_39 (looseW Mine.hd.view_39 []) mean mg mb h₀) (hk : cs.kind = .function) (U : UpdF bx ob news g) (ha : args s.heap) (hd : dp + d < recursionLimit) (hu : un + 8 * d + 100 < cLine)
    (ret : ∀ v ob' h' tk', Fr h₀ L h' m → News h₀ L h' (g ob') → (∀ p ∈ news, s.heap.get? p.1 = some p.2) → Out s.heap h' ob' v → Q v { s with heap := h', toks := tk' }) :
    wpAny (model PySem.Challenge.rw_pq0213_01.row.prog w) (ktrTop dp un gd cn cs L a ccd cl outer) (call (.ref f) vals) Q E s := by
  obtain ⟨own, rest, rfl, hg, h1, h2⟩ := U.split
  have hb := N (bx, ob) (List.mem_append_right _ (.head _))
  refine C dp un gd cn cs a ccd cl outer A₀ base h₀ L m s Q E B F X T hk hd hu hb.2.2 hb.2.1 hb.1 ha fun v ob' h' tk' k hob' o => ?_
  refine ret v ob' h' tk' (fr_but F k hb.2.1 hb.2.2) ?_ (fun p hp => (N p hp).1) o
  rw [hg]
  intro p hp
  rcases List.mem_append.mp hp with q | q
  · have z := N p (List.mem_append_left _ q)
    exact ⟨k _ _ (h1 p q) z.1, z.2⟩
  · rcases List.mem_cons.mp q with rfl | q
    · exact ⟨hob', hb.2⟩
    · have z := N p (List.mem_append_right _ (.tail _ q))
      exact ⟨k _ _ (h2 p q) z.1, z.2⟩
end
end Mine
end
-- ForOwn
section
open PySem PySem.W PySem.Spec PySem.Calls PyProof.Rows
set_option maxRecDepth 100000
namespace Mine
section
variable {prog : Program} {w : World} {A : Around} {E : Value → Shared → Prop} {s : Shared} {h₀ : Heap} {env : Env} {m : Str → Option Value} {news : List (Addr × Obj)} {Q : Flow → Shared → Prop} {target iter : Expr} {body : List Stmt} {pos : Pos}

/-- the end of a turn: the loop's own objects stand, the ledger may have grown -/
def ForEnd (h₀ : Heap) (L : Addr) (own : List (Addr × Obj)) (J : (Str → Option Value) → List (Addr × Obj) → Prop) (s₁ : Shared) (f : Flow) (s₂ : Shared) : Prop :=
  f = .next ∧ ∃ h' tk m₂ news₂, s₂ = { s₁ with heap := h', toks := tk } ∧ Fr h₀ L h' m₂ ∧ News h₀ L h' (own ++ news₂) ∧ (∀ p ∈ news₂, ∀ q ∈ own, p.1 ≠ q.1) ∧ J m₂ news₂
theorem turnEnd_ {L : Addr} {own nw : List (Addr × Obj)} {J : (Str → Option Value) → List (Addr × Obj) → Prop} {s₁ : Shared} {h' : Heap} {tk : Nat} {m₂ : Str → Option Value} (led : List (Addr × Obj))
    (F : Fr h₀ L h' m₂) (N : News h₀ L h' nw) (hi : ∀ p ∈ own ++ led, p ∈ nw) (ho : ∀ p ∈ led, ∀ q ∈ own, p.1 ≠ q.1) (hJ : J m₂ led) : ForEnd h₀ L own J s₁ .next { s₁ with heap := h', toks := tk } :=
  ⟨rfl, h', tk, m₂, led, rfl, F, fun p hp => N p (hi p hp), ho, hJ⟩

def ForTail (prog : Program) (w : World) (A : Around) (env : Env) (target : Expr) (body : List Stmt) (Q : Flow → Shared → Prop) (E : Value → Shared → Prop) (it : Value) (s₂ : Shared) : Prop :=
  PassesOwn (model prog w) A env E → codeAny (model prog w) A (.forLoop target it body [] env) (fun r s' => match r with | .ok f => Q f s' | .error e => cameBackBy (model prog w) A env E e s') s₂
def ForIter (prog : Program) (w : World) (A : Around) (env : Env) (target : Expr) (body : List Stmt) (Q : Flow → Shared → Prop) (E : Value → Shared → Prop) (xv : Value) (s₁ : Shared) : Prop :=
  wpAny (model prog w) A (pyIter xv) (ForTail prog w A env target body Q E) E s₁
theorem for_iter (h : wpAny (model prog w) A (eval iter env) (ForIter prog w A env target body Q E) E s)
    (hs : ∀ x, foldedSetIterable iter env x = pure x) (hE : PassesOwn (model prog w) A env E := by passes_own) :
    wpAny (model prog w) A (exec (.For target iter body [] pos) env) Q E s :=
  wpAny_For (wpAny_mono h (fun _ _ h₁ => wpAny_mono h₁ (fun _ _ h₂ => h₂ hE) fun _ _ e => e) fun _ _ e => e) hs
theorem for_range {x : Str} {px : Pos} {m : Str → Option Value} (_F : Fr h₀ env.locals s.heap m) (hs : foldedSetIterable iter env = fun x => pure x) (h : wpAny (model prog w) A (eval iter env) (ForIter prog w A env (.Name x px) body Q E) E s)
    (hE : PassesOwn (model prog w) A env E := by passes_own) :
    wpAny (model prog w) A (exec (.For (.Name x px) iter body [] pos) env) Q E s :=
  for_iter h (fun x => congrFun hs x) hE

theorem forAt_ {x : Str} {px : Pos} {r : Addr} {a₀ b₀ : Int} {t₀ u₀ v₀ : Tok} {n : Nat} (J : Nat → (Str → Option Value) → List (Addr × Obj) → Prop)
    (hr : IsRange s.heap r a₀ b₀ 1 t₀ u₀ v₀) (hsmall : Builtin.Range.small a₀ b₀ 1 = true) (hn : Builtin.Range.rangeSize a₀ b₀ 1 = (n : Int)) (F : Fr h₀ env.locals s.heap m) (N : News h₀ env.locals s.heap news) (h0 : J 0 m news)
    (turn : ∀ (i : Nat) t m₁ news₁ I oI h tk, i < n → J i m₁ news₁ → (∀ p ∈ news₁, p.1 ≠ I) → Fr h₀ env.locals h m₁ → News h₀ env.locals h ((I, oI) :: news₁) →
      wpAny (model prog w) A (assign (.Name x px) env (.int (a₀ + (i : Int)) t)) (fun _ s₂ => wpAny (model prog w) A (execs body env) (ForEnd h₀ env.locals [(I, oI)] (J (i + 1)) { s with heap := h, toks := tk }) E s₂) E { s with heap := h, toks := tk })
    (done : ∀ h tk m' news', J n m' news' → Fr h₀ env.locals h m' → News h₀ env.locals h news' → Q .next { s with heap := h, toks := tk })
    (hh : A.handled = none := by rfl) :
    ForIter prog w A env (.Name x px) body Q E (.ref r) s := by
  refine wpAny_pyIter_range hr hsmall fun hE => ?_
  have hW : ∀ A' : Around, A'.handled = none → Walks prog w A' s.heap.objs.size [s.heap.objs.size] [s.heap.objs.size] n (fun i v => i < n ∧ ∃ t, v = .int (a₀ + i * 1) t)
      (fun i h => IsRangeIter h s.heap.objs.size (a₀ + (i : Nat) * 1) ((n : Int) - (i : Nat)) 1) := fun A' h' => (Walks.range h' _ a₀ 1 n).bound
  have W := hW A hh
  generalize hI : s.heap.objs.size = I at *
  have hIL : env.locals ≠ I := fun e => by have z := F.ns.lt; rw [hI, e] at z; exact Nat.lt_irrefl _ z
  have hI0 : h₀.get? I = none := hI ▸ next_is_new F
  have old : ∀ b o, h₀.get? b = some o → b ≠ I := fun b o e hb => by rw [hb, hI0] at e; cases e
  refine codeAny_forLoop_any
    (fun k s' => ∃ h' tk m' news' i, s' = { s with heap := h', toks := tk } ∧ IsRangeIter h' I (a₀ + (i : Nat) * 1) ((n : Int) - (i : Nat)) 1 ∧ Fr h₀ env.locals h' m' ∧ News h₀ env.locals h' news' ∧ (∀ p ∈ news', p.1 ≠ I) ∧ J i m' news' ∧ i ≤ n ∧ k = n + 1 - i) ?_ (n + 1)
    ⟨_, _, m, news, 0, rfl, (by rw [hn]; simpa [← hI] using Heap.get?_push_size _ rfl), F.push _, (fun p hp => ⟨Heap.get?_push_of_some _ (N p hp).1, (N p hp).2⟩), (fun p hp hq => ?_), h0, Nat.zero_le _, rfl⟩
  · rintro k s' ⟨H, tk, m', news', i, rfl, hst', F', N', ha', hJ, hi, rfl⟩
    have next : ∀ h₁ : Heap, (∀ b o, b ∉ [I] → H.get? b = some o → h₁.get? b = some o) → Fr h₀ env.locals h₁ m' ∧ News h₀ env.locals h₁ news' := fun h₁ hk₁ =>
      ⟨⟨F'.ns.at' fun o e => hk₁ _ o (by simpa using hIL) e, fun b o e => hk₁ b o (by simpa using old b o e) (F'.keep b o e), F'.above⟩, fun p hp => ⟨hk₁ _ _ (by simpa using ha' p hp) (N' p hp).1, (N' p hp).2⟩⟩
    by_cases hlt : i < n
    · refine W.item i _ _ _ hlt hst' fun v h₁ tk₁ hP hst₁ hk₁ => ?_
      obtain ⟨F₁, N₁⟩ := next h₁ hk₁
      obtain ⟨_, t, rfl⟩ := hP
      refine wpAny_pure ?_
      have e1 : a₀ + (i : Int) * 1 = a₀ + (i : Int) := by omega
      rw [e1]
      obtain ⟨oI, hoI⟩ : ∃ oI, h₁.get? I = some oI := ⟨_, hst₁⟩
      refine wpAny_mono (wpAny_passesOwn hE (turn i t m' news' I oI h₁ tk₁ hlt hJ ha' F₁ fun p hp => ?_)) (fun _ s₂ h₂ => wpAny_mono (wpAny_passesOwn hE h₂) (fun f s₃ h₃ => ?_) fun _ _ e => e) fun _ _ e => e
      · rcases List.mem_cons.mp hp with rfl | hp
        · exact ⟨hoI, Ne.symm hIL, hI0⟩
        · exact N₁ p hp
      · obtain ⟨rfl, h₃', tk₃, m₂, news₂, rfl, F₃, N₃, ha₃, hJ₃⟩ := h₃
        refine ⟨n + 1 - (i + 1), by omega, h₃', tk₃, m₂, news₂, i + 1, rfl, ?_, F₃, fun p hp => N₃ p (.tail _ hp), fun p hp => ha₃ p hp (I, oI) (.head _), hJ₃, hlt, rfl⟩
        refine W.frame _ _ _ hst₁ fun b hb o e => ?_
        rw [List.mem_singleton.mp hb] at e ⊢
        rw [hoI] at e
        obtain rfl := Option.some.inj e
        exact (N₃ (I, oI) (.head _)).1
    · have hin : i = n := by omega
      subst hin
      refine W.done _ _ _ hst' fun h₁ tk₁ hk₁ => wpAny_execs_nil ?_
      obtain ⟨F₁, N₁⟩ := next h₁ hk₁
      exact done h₁ tk₁ m' news' hJ F₁ N₁
  · have z := Heap.lt_size (N p hp).1
    rw [hI, hq] at z
    exact Nat.lt_irrefl _ z

theorem forEnum_ {xi xc : Str} {pk pv pt : Pos} {x1 : Nat} {l : Addr} {vs : List Value} {n0 : Nat} (J : Nat → (Str → Option Value) → List (Addr × Obj) → Prop)
    (hxi : env.kindOf xi = some .local) (hxc : env.kindOf xc = some .local) (hp : (env.scope.kind == .class || (env.scope.kind == .module && env.locals != env.globals)) = false)
    (F : Fr h₀ env.locals s.heap m) (N : News h₀ env.locals s.heap news) (Nl : News h₀ env.locals s.heap [(l, listOf vs.toArray n0)]) (offl : ∀ p ∈ news, p.1 ≠ l) (h0 : J 0 m news)
    (turn : ∀ (i : Nat) v t m₁ news₁ e oe it oi h tk, vs[i]? = some v → J i m₁ news₁ → (∀ p ∈ news₁, p.1 ≠ e ∧ p.1 ≠ it ∧ p.1 ≠ l) → Fr h₀ env.locals h (fun y => if y = xc then some v else if y = xi then some (.int (i : Int) t) else m₁ y) → News h₀ env.locals h ((e, oe) :: (it, oi) :: (l, listOf vs.toArray n0) :: news₁) →
      wpAny (model prog w) A (execs body env) (ForEnd h₀ env.locals [(e, oe), (it, oi), (l, listOf vs.toArray n0)] (J (i + 1)) { s with heap := h, toks := tk }) E { s with heap := h, toks := tk })
    (done : ∀ h tk m' news', J vs.length m' news' → Fr h₀ env.locals h m' → News h₀ env.locals h news' → Q .next { s with heap := h, toks := tk })
    (hh : A.handled = none := by rfl) :
    wpAny (model prog w) A (call (.type "enumerate") [.ref l]) (ForIter prog w A env (.Tuple [.Name xi pk, .Name xc pv] x1 pt) body Q E) E s := by
  have hNl := Nl _ (.head _)
  have hl : s.heap.IsList l vs.toArray := ⟨_, hNl.1, rfl, n0, rfl⟩
  refine call_enumerate_list hl fun h' he hit hsz hk => ?_
  refine wpAny_pyIter_enum he fun hE => ?_
  have hls : l < s.heap.objs.size := Heap.lt_size hNl.1
  have hLs := F.ns.lt
  have n₀ : ∀ a, s.heap.objs.size ≤ a → h₀.get? a = none := fun a ha => by
    cases q : h₀.get? a with
    | none => rfl
    | some o => exact absurd (Heap.lt_size (F.keep _ _ q)) (Nat.not_lt.mpr ha)
  have hnews : ∀ p ∈ news, p.1 ≠ s.heap.objs.size + 1 ∧ p.1 ≠ s.heap.objs.size ∧ p.1 ≠ l := fun p hp => by
    have z := Heap.lt_size (N p hp).1
    exact ⟨Nat.ne_of_lt (Nat.lt_succ_of_lt z), Nat.ne_of_lt z, offl p hp⟩
  have W : WalksT prog w A (s.heap.objs.size + 1) _ _ _ _ _ _ := WalksT.enumerate hh (s.heap.objs.size + 1) s.heap.objs.size l (Nat.succ_ne_self _) (Nat.ne_of_lt (Nat.lt_succ_of_lt hls)) (Nat.ne_of_lt hls) vs.toArray
  have hLe : env.locals ≠ s.heap.objs.size + 1 := Nat.ne_of_lt (Nat.lt_succ_of_lt hLs)
  have hLi : env.locals ≠ s.heap.objs.size := Nat.ne_of_lt hLs
  have hel : l ≠ s.heap.objs.size + 1 := Nat.ne_of_lt (Nat.lt_succ_of_lt hls)
  have hil : l ≠ s.heap.objs.size := Nat.ne_of_lt hls
  have he0 : h₀.get? (s.heap.objs.size + 1) = none := n₀ _ (Nat.le_succ _)
  have hi0 : h₀.get? s.heap.objs.size = none := n₀ _ (Nat.le_refl _)
  have F₀ := F.keeps hk
  have N₀ := N.grown hk
  have hl' : h'.get? l = some (listOf vs.toArray n0) := hk _ _ hNl.1
  clear hk hsz hLs hls n₀ N Nl
  generalize s.heap.objs.size + 1 = e at *
  generalize s.heap.objs.size = it at *
  have old : ∀ b o, h₀.get? b = some o → b ∉ [e, it] := fun b o q hb => by
    rcases List.mem_cons.mp hb with r | hb
    · rw [r, he0] at q; cases q
    · rw [List.mem_singleton.mp hb, hi0] at q; cases q
  have hLw : env.locals ∉ [e, it] := by simp [hLe, hLi]
  have hLf : env.locals ∉ [e, it, l] := by simp [hLe, hLi, hNl.2.1.symm]
  refine codeAny_forLoop_any
    (fun k s' => ∃ h' tk m' news', ∃ i : Nat, s' = { s with heap := h', toks := tk } ∧ ((∃ old, IsEnum h' e it i old) ∧ h'.IsListIter it l i ∧ h'.IsList l vs.toArray) ∧ h'.get? l = some (listOf vs.toArray n0) ∧ Fr h₀ env.locals h' m' ∧ News h₀ env.locals h' news' ∧ (∀ p ∈ news', p.1 ≠ e ∧ p.1 ≠ it ∧ p.1 ≠ l) ∧ J i m' news' ∧ i ≤ vs.toArray.size ∧ k = vs.toArray.size + 1 - i) ?_ (vs.toArray.size + 1)
    ⟨_, _, m, news, 0, rfl, ⟨⟨_, by simpa using he⟩, hit, ⟨_, hl', rfl, n0, rfl⟩⟩, hl', F₀, N₀, hnews, h0, Nat.zero_le _, rfl⟩
  rintro k s' ⟨H, tk, m', news', i, rfl, hst', hlH, F', N', ha', hJ, hi, rfl⟩
  have next : ∀ h₁ : Heap, (∀ b o, b ∉ [e, it] → H.get? b = some o → h₁.get? b = some o) → Fr h₀ env.locals h₁ m' ∧ News h₀ env.locals h₁ news' := fun h₁ hk₁ =>
    ⟨⟨F'.ns.at' fun o q => hk₁ _ o hLw q, fun b o q => hk₁ b o (old b o q) (F'.keep b o q), F'.above⟩, fun p hp => ⟨hk₁ _ _ (by have z := ha' p hp; simp [z.1, z.2.1]) (N' p hp).1, (N' p hp).2⟩⟩
  by_cases hlt : i < vs.toArray.size
  · refine W.item i _ _ _ hlt hst' fun T vals h₁ tk₁ hPt _ hT hMid hk₁ => ?_
    obtain ⟨t, v, hv, rfl⟩ := hPt
    refine W.go _ x1 pt i T _ _ _ hMid fun h₂ hst₂ hk₂ => ?_
    have ht₂ : h₂.IsTuple T #[.int (i : Int) t, v] := hT.at fun o q => hk₂ T o (W.apart i T h₁ hMid) q
    refine wpAny_assign_Tuple hh ht₂ rfl rfl fun h₃ hx₃ => ?_
    replace hx₃ : Heap.ExtBut h₂.objs.size h₂ h₃ := hx₃
    have up₃ : ∀ b o, h₂.get? b = some o → h₃.get? b = some o := fun b o x => hx₃ b o (Nat.ne_of_lt (Heap.lt_size x)) x
    obtain ⟨F₃, N₃⟩ := next h₃ fun b o hb x => up₃ b o (hk₂ b o hb (hk₁ b o hb x))
    have hl₃ : h₃.get? l = some (listOf vs.toArray n0) := up₃ _ _ (hk₂ _ _ (by simp [hel, hil]) (hk₁ _ _ (by simp [hel, hil]) hlH))
    show wpAny _ A (do holding [v] (assign (.Name xi pk) env (.int (i : Int) t)); do holding [] (assign (.Name xc pv) env v); pure ()) _ _ _
    refine wpAny_bind (wpAny_holding (wpAny_assign_Name (wpAny_storeName_local hxi F₃.ns (fun h₄ hn₄ hs₄ => ?_) hp)))
    replace hs₄ : Heap.SameBut env.locals h₃ h₄ := hs₄
    have F₄ := F₃.set hn₄ hs₄
    refine wpAny_bind (wpAny_holding (wpAny_assign_Name (wpAny_storeName_local hxc F₄.ns (fun h₅ hn₅ hs₅ => wpAny_pure ?_) hp)))
    replace hs₅ : Heap.SameBut env.locals h₄ h₅ := hs₅
    have F₅ := F₄.set hn₅ hs₅
    have N₅ : News h₀ env.locals h₅ news' := (N₃.set hs₄).set hs₅
    have hl₅ : h₅.get? l = some (listOf vs.toArray n0) := hs₅.extBut _ _ hNl.2.1 (hs₄.extBut _ _ hNl.2.1 hl₃)
    have hst₅ := W.frame (i + 1) h₂ h₅ hst₂ fun b hb o q => hs₅.extBut b o (fun z => hLf (z ▸ hb)) (hs₄.extBut b o (fun z => hLf (z ▸ hb)) (up₃ b o q))
    obtain ⟨oe, hoe⟩ : ∃ oe, h₅.get? e = some oe := by obtain ⟨⟨old, q⟩, _⟩ := id hst₅; exact ⟨_, q⟩
    obtain ⟨oi, hoi⟩ : ∃ oi, h₅.get? it = some oi := by obtain ⟨_, ⟨oi, q, _⟩, _⟩ := id hst₅; exact ⟨_, q⟩
    refine wpAny_mono (wpAny_passesOwn hE (turn i v t m' news' e oe it oi h₅ _ (by simpa using hv) hJ ha' F₅ fun p hp => ?_)) (fun f s₃ h₆ => ?_) fun _ _ x => x
    · rcases List.mem_cons.mp hp with rfl | hp
      · exact ⟨hoe, Ne.symm hLe, he0⟩
      rcases List.mem_cons.mp hp with rfl | hp
      · exact ⟨hoi, Ne.symm hLi, hi0⟩
      rcases List.mem_cons.mp hp with rfl | hp
      · exact ⟨hl₅, hNl.2⟩
      · exact N₅ p hp
    · obtain ⟨rfl, h₆', tk₆, m₂, news₂, rfl, F₆, N₆, ha₆, hJ₆⟩ := h₆
      refine ⟨vs.toArray.size + 1 - (i + 1), by omega, h₆', tk₆, m₂, news₂, i + 1, rfl, ?_, (N₆ (l, _) (.tail _ (.tail _ (.head _)))).1, F₆, fun p hp => N₆ p (.tail _ (.tail _ (.tail _ hp))), fun p hp => ⟨ha₆ p hp (e, oe) (.head _), ha₆ p hp (it, oi) (.tail _ (.head _)), ha₆ p hp (l, _) (.tail _ (.tail _ (.head _)))⟩, hJ₆, hlt, rfl⟩
      refine W.frame _ _ _ hst₅ fun b hb o q => ?_
      rcases List.mem_cons.mp hb with rfl | hb
      · rw [hoe] at q; obtain rfl := Option.some.inj q; exact (N₆ (_, oe) (.head _)).1
      rcases List.mem_cons.mp hb with rfl | hb
      · rw [hoi] at q; obtain rfl := Option.some.inj q; exact (N₆ (_, oi) (.tail _ (.head _))).1
      · rw [List.mem_singleton.mp hb] at q ⊢
        rw [hl₅] at q; obtain rfl := Option.some.inj q; exact (N₆ (l, _) (.tail _ (.tail _ (.head _)))).1
  · have hin : i = vs.toArray.size := by omega
    subst hin
    refine W.done _ _ _ hst' fun h₁ tk₁ hk₁ => wpAny_execs_nil ?_
    obtain ⟨F₁, N₁⟩ := next h₁ hk₁
    exact done h₁ tk₁ m' news' (by simpa using hJ) F₁ N₁
end
end Mine
end
-- CompE
section
open PySem PySem.W PySem.Spec PySem.Calls PyProof.Rows
set_option maxRecDepth 100000
namespace Mine
section
variable {prog : Program} {w : World} {A : Around} {E : Value → Shared → Prop} {s : Shared} {h₀ : Heap} {L : Addr} {m : Str → Option Value} {env : Env}

def EndE (s₂ : Shared) (h : Heap) (R : Value → Prop) (y : Value) (s' : Shared) : Prop := ∃ h' tk', s' = { s₂ with heap := h', toks := tk' } ∧ Kept h h' ∧ R y
theorem endE_ {s₂ : Shared} {h : Heap} {R : Value → Prop} {y : Value} {tk' : Nat} (r : R y) : EndE s₂ h R y { s₂ with heap := h, toks := tk' } := ⟨h, tk', rfl, fun _ _ e => e, r⟩
def KeptOff (wr : List Addr) (h h' : Heap) : Prop := ∀ b o, b ∉ wr → h.get? b = some o → h'.get? b = some o

set_option maxHeartbeats 2000000 in
theorem pairs_block {elt iter : Expr} {x x₂ : Str} {px px₂ tp : Pos} {tk9 : Nat} {scope : Scope} {cl : List (Str × Addr)} {pos : Pos} {s₂ : Shared} {I : Addr} {fp wr : List Addr} {n : Nat} {Pt : Nat → Array Value → Prop} {St : Nat → Heap → Prop} {Mid : Nat → Addr → Heap → Prop} {P2 : Nat → Value → Value → Prop} {R : Nat → Value → Prop}
    {RR : Value → Addr → Result → Shared → Prop} (hh : A.handled = none)
    (W : WalksT prog w A I fp wr n Pt St Mid) (h2 : ∀ i vals, Pt i vals → ∃ v0 v1, vals = #[v0, v1] ∧ P2 i v0 v1) (hsz : n ≤ sizeLine)
    (hcell : ∀ y ∈ scope.names, y.2 ≠ .cell) (hkind : scope.kind = .function) (hx : scope.names.lookup x = some .local) (hx₂ : scope.names.lookup x₂ = some .local) (hxx : x ≠ x₂) (hst : St 0 s₂.heap) (hfp : ∀ b ∈ fp, b < s₂.heap.objs.size)
    (turn : ∀ i v0 v1 C m₂ h tk (E' : Value → Shared → Prop), i < n → P2 i v0 v1 → KeptOff wr s₂.heap h → s₂.heap.objs.size ≤ C → h.Ns C m₂ → m₂ x = some v0 → m₂ x₂ = some v1 →
      wpAny (model prog w) A (eval elt (compEnvC scope cl C env)) (EndE s₂ h (R i)) E' { s₂ with heap := h, toks := tk })
    (hRR : ∀ D C h tk m' (ys : List Value), KeptOff wr s₂.heap h → h.get? D = some (LCg.lst ys) → ys.length = n → (∀ j (hj : j < ys.length), R j ys[j]) → h.Ns C m' → s₂.heap.objs.size ≤ D → s₂.heap.objs.size ≤ C → C ≠ D → RR (.ref D) C (.ok .next) { s₂ with heap := h, toks := tk }) :
    wpAny (model prog w) A (newList []) (fun acc s₃ => wpAny (model prog w) A (newFunctionEnv scope env.globals cl [] env.qual none .none (some env)) (fun cenv s₄ =>
      codeAny (model prog w) A (.compStart (.ListComp elt [⟨.Tuple [.Name x px, .Name x₂ px₂] tk9 tp, iter, [], 0⟩] scope pos) 0 (.ref I) acc { cenv with scope := relabel scope env }) (RR acc cenv.locals) s₄) E s₃) E s₂ := by
  refine wpAny_newObj_type (wpAny_newFunctionEnv hcell (by intro y hy; simp at hy) (fun h₁ hns₁ hsb₁ => ?_) hkind)
  dsimp only at hns₁ hsb₁ ⊢
  generalize hH2 : s₂.heap.push { cls := .type "list", dict := none, data := .seq ([] : List Value).toArray } = H2 at hns₁ hsb₁ ⊢
  have hC : H2.objs.size = s₂.heap.objs.size + 1 := by rw [← hH2, Heap.size_push]
  generalize hCv : H2.objs.size = C at *
  generalize hDv : s₂.heap.objs.size = D at *
  have hCD : C ≠ D := by rw [hC]; exact Nat.succ_ne_self _
  have hwD : D ∉ wr := fun q => Nat.lt_irrefl _ (hfp _ (W.sub _ q))
  have hwC : C ∉ wr := fun q => by have z := hfp _ (W.sub _ q); rw [hC] at z; exact absurd z (Nat.not_lt.mpr (Nat.le_succ _))
  have hfD : D ∉ fp := fun q => Nat.lt_irrefl _ (hfp _ q)
  have hfC : C ∉ fp := fun q => by have z := hfp _ q; rw [hC] at z; exact absurd z (Nat.not_lt.mpr (Nat.le_succ _))
  have lt2 : ∀ b o, s₂.heap.get? b = some o → b < D := fun b o e => hDv ▸ Heap.lt_size e
  have neC : ∀ b o, s₂.heap.get? b = some o → b ≠ C := fun b o e q => by have z := lt2 b o e; rw [q, hC] at z; exact absurd z (Nat.not_lt.mpr (Nat.le_succ _))
  have neD : ∀ b o, s₂.heap.get? b = some o → b ≠ D := fun b o e q => by have z := lt2 b o e; rw [q] at z; exact Nat.lt_irrefl _ z
  have up₁ : Kept s₂.heap h₁ := fun b o e => hsb₁.extBut b o (neC b o e) (Heap.get?_push_of_some _ (hH2 ▸ Heap.get?_push_of_some _ e))
  have hacc : h₁.get? D = some (LCg.lst []) := hsb₁.extBut _ _ (Ne.symm hCD) (Heap.get?_push_of_some _ (by rw [← hH2, ← hDv]; exact Heap.get?_push_size _ rfl))
  have hst₁ : St 0 h₁ := W.frame _ _ _ hst fun b _ o e => up₁ b o e
  have loop : ∀ s₃ : Shared, s₃ = { s₂ with heap := h₁, toks := s₂.toks + ([] : List (Str × Value)).length } →
      codeAny (model prog w) A (.compLoop (.ListComp elt [⟨.Tuple [.Name x px, .Name x₂ px₂] tk9 tp, iter, [], 0⟩] scope pos) 0 (.ref I) (.ref D) (compEnvC scope cl C env)) (RR (.ref D) C) s₃ := by
    rintro s₃ rfl
    refine LCp.codeAny_compLoop_pair
      (fun k s' => ∃ h' tk i ys m', s' = { s₂ with heap := h', toks := tk } ∧ i ≤ n ∧ k = n + 1 - i ∧ ys.length = i ∧ St i h' ∧ KeptOff wr s₂.heap h' ∧ h'.Ns C m' ∧ h'.get? D = some (LCg.lst ys) ∧ ∀ j (hj : j < ys.length), R j ys[j]) ?_ (n + 1)
      ⟨h₁, _, 0, [], _, rfl, Nat.zero_le _, rfl, rfl, hst₁, fun b o _ e => up₁ b o e, hns₁, hacc, fun j hj => absurd hj (Nat.not_lt_zero _)⟩
    rintro k s' ⟨h', tk, i, ys, m', rfl, hi, rfl, hyl, hst', hk', hn', hD', hR'⟩
    by_cases hlt : i < n
    · refine W.item i _ _ _ hlt hst' fun T vals h₂ tk₂ hPt hTs hT hMid hk₂ => ?_
      obtain ⟨v0, v1, rfl, hP2⟩ := h2 i vals hPt
      refine W.go _ tk9 tp i T _ _ _ hMid fun h₃ hst₃ hk₃ => ?_
      have ht₃ : h₃.IsTuple T #[v0, v1] := hT.at fun o e => hk₃ T o (W.apart i T h₂ hMid) e
      have htt : IsTup h₃ T #[v0, v1] := ht₃
      refine assign_Tuple_tuple hh htt rfl rfl fun h₅ he => ?_
      have up₅ : ∀ b o, h₃.get? b = some o → h₅.get? b = some o := fun b o e => he b o (Nat.ne_of_lt (Heap.lt_size e)) e
      have hn₅ : h₅.Ns C m' := ((hn'.at' fun o e => hk₂ _ o hwC e).at' fun o e => hk₃ _ o hwC e).at' fun o e => up₅ _ o e
      refine assignInOrder_cons (wpAny_assign_Name (wpAny_storeName_local (lookup_relabel_local hx) hn₅ (fun h₆ hn₆ hs₆ => ?_) (by simp [compEnvC, relabel, hkind])))
      refine assignInOrder_cons (wpAny_assign_Name (wpAny_storeName_local (lookup_relabel_local hx₂) hn₆ (fun h₇ hn₇ hs₇ => ?_) (by simp [compEnvC, relabel, hkind])))
      refine assignInOrder_nil ?_
      have up₇ : ∀ b o, b ≠ C → h₃.get? b = some o → h₇.get? b = some o := fun b o hb e => hs₇.extBut b o hb (hs₆.extBut b o hb (up₅ b o e))
      have hst₇ : St (i + 1) h₇ := W.frame _ _ _ hst₃ fun b hb o e => up₇ b o (fun q => hfC (q ▸ hb)) e
      have hk₇ : KeptOff wr s₂.heap h₇ := fun b o hb e => up₇ b o (neC b o e) (hk₃ b o hb (hk₂ b o hb (hk' b o hb e)))
      have hD₇ : h₇.get? D = some (LCg.lst ys) := up₇ D _ (Ne.symm hCD) (hk₃ D _ hwD (hk₂ D _ hwD hD'))
      refine wpAny_mono (turn i v0 v1 C _ h₇ _ _ hlt hP2 hk₇ (hC ▸ Nat.le_succ _) hn₇ (by simp [hxx]) (by simp)) (fun y s₄ h₄ => ?_) fun _ _ e => e
      obtain ⟨h₈, tk₈, rfl, hk₈, hy⟩ := h₄
      refine append_at (hsz := by show ys.toArray.size ≤ sizeLine; rw [List.size_toArray, hyl]; exact Nat.le_trans hi hsz) (hk₈ _ _ hD₇) fun h₉ hs₉ hD₉ => ?_
      refine ⟨n + 1 - (i + 1), by omega, h₉, tk₈, i + 1, ys ++ [y], _, rfl, hlt, rfl, by rw [List.length_append, List.length_singleton, hyl], W.frame _ _ _ hst₇ fun b hb o e => hs₉.extBut b o (fun q => hfD (q ▸ hb)) (hk₈ b o e),
        fun b o hb e => hs₉.extBut b o (neD b o e) (hk₈ b o (hk₇ b o hb e)), (hn₇.at' fun o e => hk₈ _ o e).sameBut hs₉ hCD, hD₉.trans (congrArg some (LCg.lst_snoc ys y)), fun j hj => ?_⟩
      rw [List.length_append, List.length_singleton] at hj
      by_cases c : j < ys.length
      · rw [List.getElem_append_left c]; exact hR' j c
      · have c' : j = i := by omega
        subst c'
        have : (ys ++ [y])[j]'(by rw [List.length_append, List.length_singleton]; omega) = y := by
          rw [List.getElem_append_right (by omega)]; simp
        rw [this]; exact hy
    · obtain rfl : i = n := Nat.le_antisymm hi (Nat.not_lt.mp hlt)
      refine W.done _ _ _ hst' fun h₂ tk₂ hk₂ => ?_
      exact hRR D C h₂ tk₂ m' ys (fun b o hb e => hk₂ b o hb (hk' b o hb e)) (hk₂ _ _ hwD hD') hyl hR' (hn'.at' fun o e => hk₂ _ o hwC e) (Nat.le_refl _) (hC ▸ Nat.le_succ _) hCD
  exact codeAny_compStart_list (loop _ rfl) (W.self 0 _ _ _ hst₁ (loop _ rfl))

def EnumSrc (h₀ : Heap) (L : Addr) (m : Str → Option Value) (news : List (Addr × Obj)) (its : Array Value) (xv : Value) (s₁ : Shared) : Prop :=
  ∃ e it l, xv = .ref e ∧ Fr h₀ L s₁.heap m ∧ News h₀ L s₁.heap news ∧ e ≠ it ∧ l ≠ e ∧ l ≠ it ∧ IsEnum s₁.heap e it 0 .none ∧ s₁.heap.IsListIter it l 0 ∧ s₁.heap.IsList l its ∧
    h₀.get? e = none ∧ h₀.get? it = none ∧ e ≠ L ∧ it ≠ L ∧ ∀ p ∈ news, p.1 ≠ e ∧ p.1 ≠ it

theorem enumSrc_of {l : Addr} {its : Array Value} {news : List (Addr × Obj)} {s₁ : Shared} {Q : Value → Shared → Prop} (F : Fr h₀ L s₁.heap m) (N : News h₀ L s₁.heap news) (hl : s₁.heap.IsList l its)
    (h : ∀ v h', EnumSrc h₀ L m news its v { s₁ with heap := h' } → Q v { s₁ with heap := h' }) : wpAny (model prog w) A (call (.type "enumerate") [.ref l]) Q E s₁ := by
  refine call_enumerate_list hl fun h' he hit hsz hk => h _ h' ?_
  obtain ⟨ol, hol, _⟩ := id hl
  have hlt : l < s₁.heap.objs.size := Heap.lt_size hol
  have n₀ : ∀ a, s₁.heap.objs.size ≤ a → h₀.get? a = none := fun a ha => by
    cases q : h₀.get? a with
    | none => rfl
    | some o => exact absurd (Heap.lt_size (F.keep _ _ q)) (Nat.not_lt.mpr ha)
  have hL := F.ns.lt
  refine ⟨_, _, l, rfl, F.keeps hk, N.grown hk, Nat.succ_ne_self _, Nat.ne_of_lt (Nat.lt_succ_of_lt hlt), Nat.ne_of_lt hlt, he, hit, hl.at fun o e => hk l o e, n₀ _ (Nat.le_succ _), n₀ _ (Nat.le_refl _), Nat.ne_of_gt (Nat.lt_succ_of_lt hL), Nat.ne_of_gt hL, fun p hp => ?_⟩
  have := Heap.lt_size (N p hp).1
  exact ⟨Nat.ne_of_lt (Nat.lt_succ_of_lt this), Nat.ne_of_lt this⟩

theorem comp_enum {elt iter : Expr} {x x₂ : Str} {px px₂ tp : Pos} {tk9 : Nat} {scope : Scope} {cl : List (Str × Addr)} {pos : Pos} {Q : Value → Shared → Prop} {its : Array Value} {R : Nat → Value → Prop} {news : List (Addr × Obj)} (_F₀ : Fr h₀ L s.heap m) (_N₀ : News h₀ L s.heap news) (hh : A.handled = none)
    (hclos : closureFor scope env = pure cl) (hcell : ∀ y ∈ scope.names, y.2 ≠ .cell) (hkind : scope.kind = .function)
    (hnames : ∀ y ∈ scope.names, y.2 = .local → scope.names.lookup y.1 = some .local) (hx : scope.names.lookup x = some .local) (hx₂ : scope.names.lookup x₂ = some .local) (hxx : x ≠ x₂) (hsz : its.size ≤ sizeLine)
    (turn : ∀ (i : Nat) v C oC m₂ (s₂ : Shared) h tk (E' : Value → Shared → Prop) t, its[i]? = some v → Fr h₀ L h m → LCg.NsObj oC m₂ → News h₀ L h ((C, oC) :: news) → m₂ x = some (.int (i : Int) t) → m₂ x₂ = some v →
      wpAny (model prog w) A (eval elt (compEnvC scope cl C env)) (EndE s₂ h (R i)) E' { s₂ with heap := h, toks := tk })
    (fin : ∀ D h tk (ys : List Value) (s₁ : Shared), (∃ h tk, s₁ = { s with heap := h, toks := tk }) → ys.length = its.size → (∀ j (hj : j < ys.length), R j ys[j]) → Fr h₀ L h m → News h₀ L h ((D, LCg.lst ys) :: news) → LCg.Off1 D news → Q (.ref D) { s₁ with heap := h, toks := tk })
    (h : wpAny (model prog w) A (eval iter env) (fun v s₁ => (∃ h tk, s₁ = { s with heap := h, toks := tk }) ∧ EnumSrc h₀ L m news its v s₁) E s)
    (hs : ∀ x, foldedSetIterable iter env x = pure x := by intro _; rfl) :
    wpAny (model prog w) A (eval (.ListComp elt [⟨.Tuple [.Name x px, .Name x₂ px₂] tk9 tp, iter, [], 0⟩] scope pos) env) Q E s := by
  rw [eval_ListComp]
  refine wpAny_comprehension_free (use := none) rfl hs hclos hkind hnames (wpAny_mono h (fun xv s₁ h₁ => ?_) fun _ _ e => e)
  obtain ⟨hs₁, e, it, l, rfl, F, N, hei, hle, hli, he, hit, hl, he₀, hit₀, heL, hitL, hoff⟩ := h₁
  refine wpAny_pyIter_enum he ?_
  have hlt : ∀ b ∈ [e, it, l], b < s₁.heap.objs.size := fun b hb => by
    obtain ⟨_, q1, _⟩ := id hit
    obtain ⟨_, q2, _⟩ := id hl
    rcases List.mem_cons.mp hb with rfl | hb
    · exact Heap.lt_size he
    · rcases List.mem_cons.mp hb with rfl | hb
      · exact Heap.lt_size q1
      · rw [List.mem_singleton.mp hb]; exact Heap.lt_size q2
  have up : ∀ h', KeptOff [e, it] s₁.heap h' → Fr h₀ L h' m ∧ News h₀ L h' news := fun h' k => by
    refine ⟨⟨F.ns.at' fun o q => k _ o (by simp [Ne.symm heL, Ne.symm hitL]) q, fun b o q => k b o (fun hb => ?_) (F.keep b o q), F.above⟩, fun p hp => ⟨k _ _ (by have := hoff p hp; simp [this.1, this.2]) (N p hp).1, (N p hp).2⟩⟩
    rcases List.mem_cons.mp hb with r | hb
    · rw [r, he₀] at q; cases q
    · rw [List.mem_singleton.mp hb, hit₀] at q; cases q
  have n₀ : ∀ a, s₁.heap.objs.size ≤ a → h₀.get? a = none := fun a ha => by
    cases q : h₀.get? a with
    | none => rfl
    | some o => exact absurd (Heap.lt_size (F.keep _ _ q)) (Nat.not_lt.mpr ha)
  refine pairs_block hh (WalksT.enumerate hh e it l hei hle hli its) (P2 := fun i v0 v1 => ∃ t, v0 = .int (i : Int) t ∧ its[i]? = some v1) (R := R) (fun i vals hv => by obtain ⟨t, x, hx, rfl⟩ := hv; exact ⟨_, _, rfl, t, rfl, hx⟩) hsz hcell hkind hx hx₂ hxx ⟨⟨_, by simpa using he⟩, hit, hl⟩ hlt
    (fun i v0 v1 C m₂ h tk E' hi hP k hCs hns hm1 hm2 => ?_) ?_
  · obtain ⟨t, rfl, hv⟩ := hP
    obtain ⟨oC, hoC, hC⟩ := LCg.ns_obj hns
    refine turn i v1 C oC m₂ s₁ h tk E' t hv (up h k).1 hC (fun p hp => ?_) hm1 hm2
    rcases List.mem_cons.mp hp with rfl | hp
    · exact ⟨hoC, fun q => by have z := F.ns.lt; have q' : C = L := q; rw [← q'] at z; exact absurd z (Nat.not_lt.mpr hCs), n₀ _ hCs⟩
    · exact (up h k).2 p hp
  · intro D C h tk m' ys k hD hyl hR hn hDs hCs hCD
    refine ⟨m', hn, fun h'' hs'' => ?_⟩
    have hDL : D ≠ L := fun q => by have := F.ns.lt; rw [← q] at this; exact absurd this (Nat.not_lt.mpr hDs)
    have hCL : C ≠ L := fun q => by have := F.ns.lt; rw [← q] at this; exact absurd this (Nat.not_lt.mpr hCs)
    have F' := (up h k).1.change hs'' hCL (n₀ _ hCs)
    have off : ∀ p ∈ news, p.1 ≠ D ∧ p.1 ≠ C := fun p hp => by
      have := Heap.lt_size (N p hp).1
      exact ⟨fun q => by rw [q] at this; exact absurd this (Nat.not_lt.mpr hDs), fun q => by rw [q] at this; exact absurd this (Nat.not_lt.mpr hCs)⟩
    refine fin D h'' tk ys s₁ hs₁ hyl hR F' (fun p hp => ?_) (off1_of fun p hp => (off p hp).1)
    rcases List.mem_cons.mp hp with rfl | hp
    · exact ⟨hs''.extBut _ _ (Ne.symm hCD) hD, hDL, n₀ _ hDs⟩
    · have z := (up h k).2 p hp
      exact ⟨hs''.extBut _ _ (off p hp).2 z.1, z.2⟩
end
end Mine
end
-- Pure
section
namespace Mine
/-- the list without its last zeros -/
def trim : List Int → List Int
  | [] => []
  | x :: r => match trim r with
    | [] => if x = 0 then [] else [x]
    | y :: q => x :: y :: q

theorem trim_of_take (ns : List Int) (k : Nat) (h1 : k ≤ ns.length) (h2 : ∀ j, k ≤ j → ns.getD j 0 = 0) (h3 : k = 0 ∨ ns.getD (k - 1) 0 ≠ 0) : ns.take k = trim ns := by
  induction ns generalizing k with
  | nil => simp [trim]
  | cons x r ih =>
    cases k with
    | zero =>
      have hr := ih 0 (Nat.zero_le _) (fun j _ => by have := h2 (j + 1) (Nat.zero_le _); simpa using this) (.inl rfl)
      have hx : x = 0 := by have := h2 0 (Nat.le_refl _); simpa using this
      simp only [List.take_zero] at hr ⊢
      simp [trim, ← hr, hx]
    | succ k =>
      have hl : k ≤ r.length := by simpa using h1
      have hz : ∀ j, k ≤ j → r.getD j 0 = 0 := fun j hj => by have := h2 (j + 1) (by omega); simpa using this
      have hx : (k + 1 - 1) = k := rfl
      cases k with
      | zero =>
        have hr := ih 0 (Nat.zero_le _) hz (.inl rfl)
        have hx : x ≠ 0 := by
          rcases h3 with h | h
          · omega
          · simpa using h
        simp only [List.take_zero] at hr
        simp [trim, ← hr, hx]
      | succ k =>
        have h3' : r.getD k 0 ≠ 0 := by
          rcases h3 with h | h
          · omega
          · simpa using h
        have hr := ih (k + 1) hl hz (.inr (by simpa using h3'))
        cases r with
        | nil => simp at hl
        | cons y q =>
          simp only [List.take_succ_cons] at hr ⊢
          rw [trim, ← hr]

def addL (a b : List Int) : List Int := (List.range (max a.length b.length)).map fun i => a.getD i 0 + b.getD i 0
def zadd (a b : List Int) : List Int := trim (addL a b)
def zneg (p : List Int) : List Int := p.map fun x => -x
def zsub (a b : List Int) : List Int := zadd a (zneg b)
def zscale (p : List Int) (k : Int) : List Int := if k ≠ 0 then p.map fun x => x * k else []
def zraise (p : List Int) (many : Nat) : List Int := if p ≠ [] then List.replicate many 0 ++ p else []
end Mine
namespace Mine
theorem zraise_pos (ns : List Int) (x : Int) (h : 0 < (ns.length : Int)) (_ : 0 ≤ x) : (List.replicate x.toNat [(0 : Int)]).flatten ++ ns = zraise ns x.toNat := by
  have h' : ns ≠ [] := by intro e; subst e; simp at h
  simp only [zraise, h', ne_eq, not_false_eq_true, if_true]
  congr 1
  generalize x.toNat = k
  induction k with
  | zero => rfl
  | succ n ih => simp [List.replicate_succ, ih]
theorem zraise_nil (ns : List Int) (x : Nat) (h : ¬ 0 < (ns.length : Int)) : [] = zraise ns x := by
  have h' : ns = [] := List.length_eq_zero_iff.mp (by omega)
  simp [zraise, h']
end Mine
namespace Mine
theorem ztrim_end (ns : List Int) (k : Int) (h1 : k ≤ (ns.length : Int)) (h2 : min (ns.length : Int) 0 ≤ k)
    (h3 : ∀ j : Int, k < j → j ≤ (ns.length : Int) → (if 0 < j then if (ns.getD (j - 1).toNat 0 == 0) = true then true else false else false) = true)
    (h4 : (if 0 < k then if (ns.getD (k - 1).toNat 0 == 0) = true then true else false else false) = false) : List.take k.toNat ns = trim ns := by
  have h0 : 0 ≤ k := by omega
  refine trim_of_take ns k.toNat (by omega) (fun j hj => ?_) ?_
  · by_cases hjl : j < ns.length
    · have := h3 (j + 1) (by omega) (by omega)
      have hp : (0 : Int) < (j : Int) + 1 := by omega
      simp only [hp, if_true] at this
      have e1 : ((j : Int) + 1 - 1).toNat = j := by omega
      rw [e1] at this
      split at this
      · rename_i q; simpa using q
      · cases this
    · rw [List.getD_eq_getElem?_getD, List.getElem?_eq_none (by omega)]; rfl
  · by_cases hk0 : 0 < k
    · right
      simp only [hk0, if_true] at h4
      have e1 : (k - 1).toNat = k.toNat - 1 := by omega
      rw [e1] at h4
      intro hz
      rw [hz] at h4
      simp at h4
    · left; omega
end Mine
namespace Mine
theorem trim_length_le (l : List Int) : (trim l).length ≤ l.length := by
  induction l with
  | nil => simp [trim]
  | cons x r ih =>
    rw [trim]
    split
    · split <;> simp
    · rename_i y q e
      rw [e] at ih
      simp at ih ⊢
      omega
theorem addL_length (a b : List Int) : (addL a b).length = max a.length b.length := by simp [addL]
theorem zadd_length (a b : List Int) : (zadd a b).length ≤ max a.length b.length := by
  have := trim_length_le (addL a b)
  rw [addL_length] at this
  exact this
theorem zneg_length (a : List Int) : (zneg a).length = a.length := by simp [zneg]
theorem zsub_length (a b : List Int) : (zsub a b).length ≤ max a.length b.length := by
  have := zadd_length a (zneg b)
  rw [zneg_length] at this
  exact this
theorem zscale_length (a : List Int) (k : Int) : (zscale a k).length ≤ a.length := by
  unfold zscale
  split <;> simp
theorem zraise_length (a : List Int) (k : Nat) : (zraise a k).length ≤ k + a.length := by
  unfold zraise
  split <;> simp
end Mine
namespace Mine
theorem getD_last (ns : List Int) (h : 0 < (ns.length : Int)) : ns.getD (-1 + (ns.length : Int)).toNat 0 = ns.getLastD 0 := by
  have e : (-1 + (ns.length : Int)).toNat = ns.length - 1 := by omega
  rw [e, List.getLastD_eq_getLast?, List.getLast?_eq_getElem?, List.getD_eq_getElem?_getD]
end Mine
namespace Mine
def ev : List Int → Int → Int
  | [], _ => 0
  | c :: r, x => c + x * ev r x
def Trimmed (p : List Int) : Prop := p = [] ∨ p.getLastD 0 ≠ 0
def Bnd (p : List Int) (M : Nat) : Prop := ∀ y ∈ p, -(M : Int) ≤ y ∧ y ≤ M
structure InOk (a b : List Int) : Prop where
  la : a.length ≤ 8
  lb : b.length ≤ 4
  lb0 : 0 < b.length
  ba : Bnd a 128
  bb : Bnd b 4
  ta : Trimmed a
  lead : 1 ≤ b.getLastD 0
def psMany (a b : List Int) : Int := max 0 ((a.length : Int) - b.length + 1)
structure PsInv (a b rs fs : List Int) (left : Int) : Prop where
  inp : InOk a b
  h0 : 0 ≤ left
  hm : left ≤ psMany a b
  len : (rs.length : Int) + 1 ≤ left + b.length ∨ rs.length < b.length
  flen : (fs.length : Int) ≤ psMany a b
  tr : Trimmed rs
  tf : Trimmed fs
  rlen : rs.length ≤ 8
  id : ∀ x, (b.getLastD 0) ^ (psMany a b - left).toNat * ev a x = ev fs x * ev b x + ev rs x
  bnd : ∃ M : Nat, Bnd rs M ∧ Bnd fs M ∧ M * 8 ^ left.toNat ≤ 128 * 8 ^ (psMany a b).toNat
end Mine
end
-- PsMath
section
namespace Mine

theorem getD_nil (i : Nat) : ([] : List Int).getD i 0 = 0 := rfl
theorem getD_ge (l : List Int) (i : Nat) (h : l.length ≤ i) : l.getD i 0 = 0 := by
  rw [List.getD_eq_getElem?_getD, List.getElem?_eq_none h]; rfl

/-! coefficients -/
theorem trim_getD (l : List Int) : ∀ i, (trim l).getD i 0 = l.getD i 0 := by
  induction l with
  | nil => intro i; rfl
  | cons x r ih =>
    intro i
    rw [trim]
    split
    · rename_i e
      have z : ∀ j, r.getD j 0 = 0 := fun j => by rw [← ih j, e]; rfl
      cases i with
      | zero => split <;> simp_all
      | succ i =>
        have := z i
        split
        · simpa using this.symm
        · simpa using this.symm
    · rename_i y q e
      cases i with
      | zero => rfl
      | succ i => have := ih i; rw [e] at this; simpa using this
theorem addL_getD (a b : List Int) (i : Nat) : (addL a b).getD i 0 = a.getD i 0 + b.getD i 0 := by
  by_cases h : i < max a.length b.length
  · unfold addL
    rw [List.getD_eq_getElem?_getD, List.getElem?_map, List.getElem?_range h]
    rfl
  · rw [getD_ge _ _ (by rw [addL_length]; omega), getD_ge a i (by omega), getD_ge b i (by omega)]
    rfl
theorem zadd_getD (a b : List Int) (i : Nat) : (zadd a b).getD i 0 = a.getD i 0 + b.getD i 0 := by
  unfold zadd; rw [trim_getD, addL_getD]
theorem zneg_getD (a : List Int) (i : Nat) : (zneg a).getD i 0 = - a.getD i 0 := by
  unfold zneg
  rw [List.getD_eq_getElem?_getD, List.getD_eq_getElem?_getD, List.getElem?_map]
  cases a[i]? <;> simp
theorem zsub_getD (a b : List Int) (i : Nat) : (zsub a b).getD i 0 = a.getD i 0 - b.getD i 0 := by
  unfold zsub; rw [zadd_getD, zneg_getD]; omega
theorem zscale_getD (a : List Int) (k : Int) (i : Nat) : (zscale a k).getD i 0 = a.getD i 0 * k := by
  unfold zscale
  split
  · rw [List.getD_eq_getElem?_getD, List.getD_eq_getElem?_getD, List.getElem?_map]
    cases a[i]? <;> simp
  · rename_i h
    have : k = 0 := by simpa using h
    subst this
    simp
theorem zraise_getD (a : List Int) (k i : Nat) : (zraise a k).getD i 0 = if i < k then 0 else a.getD (i - k) 0 := by
  unfold zraise
  split
  · rw [List.getD_eq_getElem?_getD, List.getD_eq_getElem?_getD, List.getElem?_append, List.length_replicate]
    split
    · rename_i h
      rw [List.getElem?_replicate, if_pos h]
      rfl
    · rfl
  · rename_i h
    have : a = [] := by simpa using h
    subst this
    simp

/-! evaluation -/
theorem ev_zero (l : List Int) (h : ∀ i, l.getD i 0 = 0) (x : Int) : ev l x = 0 := by
  induction l with
  | nil => rfl
  | cons c r ih =>
    have hc : c = 0 := by simpa using h 0
    have hr := ih fun i => by simpa using h (i + 1)
    simp [ev, hc, hr]
theorem ev_congr : ∀ (a b : List Int) (_ : ∀ i, a.getD i 0 = b.getD i 0) (x : Int), ev a x = ev b x
  | [], b, h, x => by rw [ev_zero b (fun i => (h i).symm)]; rfl
  | a :: r, [], h, x => by rw [ev_zero (a :: r) (fun i => h i)]; rfl
  | c :: r, d :: q, h, x => by
    have e : c = d := by simpa using h 0
    have e2 := ev_congr r q (fun i => by simpa using h (i + 1)) x
    simp [ev, e, e2]
theorem ev_trim (l : List Int) (x : Int) : ev (trim l) x = ev l x := ev_congr _ _ (trim_getD l) x
theorem ev_add : ∀ (a b c : List Int) (_ : ∀ i, c.getD i 0 = a.getD i 0 + b.getD i 0) (x : Int), ev c x = ev a x + ev b x
  | [], b, c, h, x => by rw [ev_congr c b (fun i => by rw [h i, getD_nil]; omega)]; simp [ev]
  | a :: r, [], c, h, x => by rw [ev_congr c (a :: r) (fun i => by rw [h i, getD_nil]; omega)]; simp [ev]
  | a :: r, b :: q, [], h, x => by
    have e : 0 = a + b := by simpa using h 0
    have e2 := ev_add r q [] (fun i => by have := h (i + 1); simpa using this) x
    simp only [ev] at e2 ⊢
    have : x * ev r x + x * ev q x = 0 := by rw [← Int.mul_add, ← e2]; simp
    omega
  | a :: r, b :: q, c :: s, h, x => by
    have e : c = a + b := by simpa using h 0
    have e2 := ev_add r q s (fun i => by have := h (i + 1); simpa using this) x
    simp only [ev, e2, e, Int.mul_add]
    omega
theorem ev_scale (a : List Int) (k x : Int) : ev (a.map fun y => y * k) x = ev a x * k := by
  induction a with
  | nil => simp [ev]
  | cons c r ih => simp only [List.map_cons, ev, ih]; grind
theorem ev_zscale (a : List Int) (k x : Int) : ev (zscale a k) x = ev a x * k := by
  unfold zscale
  split
  · exact ev_scale a k x
  · rename_i h
    have : k = 0 := by simpa using h
    simp [ev, this]
theorem ev_zsub (a b : List Int) (x : Int) : ev (zsub a b) x = ev a x - ev b x := by
  have := ev_add (zsub a b) b a (fun i => by rw [zsub_getD]; omega) x
  omega
theorem ev_zeros (k : Nat) (l : List Int) (x : Int) : ev (List.replicate k 0 ++ l) x = x ^ k * ev l x := by
  induction k with
  | zero => simp
  | succ k ih => rw [List.replicate_succ, List.cons_append, ev, ih]; grind
theorem ev_zraise (a : List Int) (k : Nat) (x : Int) : ev (zraise a k) x = x ^ k * ev a x := by
  unfold zraise
  split
  · exact ev_zeros k a x
  · rename_i h
    have : a = [] := by simpa using h
    simp [ev, this]

/-! trimmed -/
theorem trim_trimmed (l : List Int) : Trimmed (trim l) := by
  induction l with
  | nil => exact .inl rfl
  | cons x r ih =>
    rw [trim]
    split
    · split
      · exact .inl rfl
      · rename_i h; exact .inr (by simpa using h)
    · rename_i y q e
      rw [e] at ih
      rcases ih with h | h
      · cases h
      · exact .inr (by simpa using h)
theorem zsub_trimmed (a b : List Int) : Trimmed (zsub a b) := trim_trimmed _
theorem lastD_getD (l : List Int) : l.getLastD 0 = l.getD (l.length - 1) 0 := by
  rw [List.getLastD_eq_getLast?, List.getLast?_eq_getElem?, List.getD_eq_getElem?_getD]
theorem trimmed_len {l : List Int} (h : Trimmed l) {k : Nat} (z : ∀ i, k ≤ i → l.getD i 0 = 0) : l.length ≤ k := by
  rcases h with h | h
  · subst h; simp
  · rw [lastD_getD] at h
    by_cases c : l.length ≤ k
    · exact c
    · exact absurd (z (l.length - 1) (by omega)) h
theorem zscale_trimmed {l : List Int} (h : Trimmed l) {k : Int} (hk : k ≠ 0) : Trimmed (zscale l k) := by
  rcases h with h | h
  · subst h; exact .inl (by simp [zscale])
  · right
    have e : (zscale l k).length = l.length := by simp [zscale, hk]
    rw [lastD_getD, zscale_getD, e, ← lastD_getD]
    exact Int.mul_ne_zero h hk

theorem bnd_getD {l : List Int} {M : Nat} (h : Bnd l M) (i : Nat) : -(M : Int) ≤ l.getD i 0 ∧ l.getD i 0 ≤ M := by
  rw [List.getD_eq_getElem?_getD]
  cases e : l[i]? with
  | none => exact ⟨by simp, by simp⟩
  | some y => exact h y (List.mem_of_getElem? e)
theorem bnd_of_getD {l : List Int} {M : Nat} (h : ∀ i, -(M : Int) ≤ l.getD i 0 ∧ l.getD i 0 ≤ M) : Bnd l M := by
  intro y hy
  obtain ⟨i, hi, e⟩ := List.getElem_of_mem hy
  have := h i
  rw [List.getD_eq_getElem?_getD, List.getElem?_eq_getElem hi, e] at this
  exact this

theorem mul_bound {x y : Int} {M N : Nat} (hx : -(M : Int) ≤ x ∧ x ≤ M) (hy : -(N : Int) ≤ y ∧ y ≤ N) : -((M * N : Nat) : Int) ≤ x * y ∧ x * y ≤ ((M * N : Nat) : Int) := by
  have h1 : x.natAbs ≤ M := by omega
  have h2 : y.natAbs ≤ N := by omega
  have h3 : (x * y).natAbs ≤ M * N := by rw [Int.natAbs_mul]; exact Nat.mul_le_mul h1 h2
  omega
end Mine
end
-- PsMath2
section
namespace Mine
theorem inok_lead {a b : List Int} (h : InOk a b) : 1 ≤ b.getLastD 0 ∧ b.getLastD 0 ≤ 4 := by
  refine ⟨h.lead, ?_⟩
  rw [lastD_getD]
  exact (bnd_getD h.bb _).2
theorem psinv_start {ns ms : List Int} (h : InOk ns ms) : PsInv ns ms ns [] (if (ns.length : Int) - ms.length + 1 > 0 then (ns.length : Int) - ms.length + 1 else 0) := by
  have e : (if (ns.length : Int) - ms.length + 1 > 0 then (ns.length : Int) - ms.length + 1 else 0) = psMany ns ms := by unfold psMany; split <;> omega
  have hla := h.la
  rw [e]
  refine ⟨h, by unfold psMany; omega, Int.le_refl _, by unfold psMany; omega, by unfold psMany; simp; omega, h.ta, .inl rfl, h.la, fun x => by simp [ev], 128, h.ba, fun y hy => (nomatch hy), Nat.le_refl _⟩

theorem step_id (P F A Fv B R X N : Int) (h : P * A = Fv * B + R) : P * F * A = (Fv * F - X * (-N)) * B + (R * F - X * (B * N)) := by grind
theorem end_id (P X A Fv B R : Int) (h : P * A = Fv * B + R) : P * X * A = Fv * X * B + R * X := by grind
section
variable {a b rs fs : List Int} {lf : Int}
theorem psinv_flen (h : PsInv a b rs fs lf) : fs.length ≤ 1000 := by
  have := h.flen; have := h.inp.la; unfold psMany at *; omega
theorem psinv_lead (h : PsInv a b rs fs lf) : b.getLastD 0 < 2 ^ 62 ∧ -2 ^ 62 < b.getLastD 0 := by
  have := inok_lead h.inp; omega
theorem psinv_lf (h : PsInv a b rs fs lf) : lf ≤ 1000000 := by
  have := h.hm; have := h.inp.la; unfold psMany at *; omega
theorem psinv_lf8 (h : PsInv a b rs fs lf) : lf.toNat ≤ 9 := by
  have := h.hm; have := h.inp.la; unfold psMany at *; omega
theorem psinv_abs (h : PsInv a b rs fs lf) : (b.getLastD 0).natAbs < 2 ^ 64 := by
  have := inok_lead h.inp; omega
theorem pow_pos_le {x : Int} (h1 : 1 ≤ x) (h4 : x ≤ 4) (n : Nat) : 1 ≤ x ^ n ∧ x ^ n ≤ 4 ^ n := by
  induction n with
  | zero => simp
  | succ n ih =>
    rw [Int.pow_succ, Int.pow_succ]
    have a1 : 1 * 1 ≤ x ^ n * x := Int.mul_le_mul ih.1 h1 (by omega) (by omega)
    have a2 : x ^ n * x ≤ 4 ^ n * 4 := Int.mul_le_mul ih.2 h4 (by omega) (by have := ih.1; have := ih.2; omega)
    omega
theorem psinv_pow (h : PsInv a b rs fs lf) : (b.getLastD 0) ^ lf.toNat < 2 ^ 62 ∧ -2 ^ 62 < (b.getLastD 0) ^ lf.toNat := by
  have h1 := inok_lead h.inp
  have h2 := pow_pos_le h1.1 h1.2 lf.toNat
  have h3 : (4 : Nat) ^ lf.toNat ≤ 4 ^ 9 := Nat.pow_le_pow_right (by omega) (psinv_lf8 h)
  have h4 : (4 : Int) ^ lf.toNat ≤ 4 ^ 9 := by
    have := Int.ofNat_le.mpr h3
    rw [Int.natCast_pow, Int.natCast_pow] at this
    exact this
  have h5 := Int.le_trans h2.2 h4
  omega
theorem pow_mono8 (n k : Nat) (h : n ≤ k) : (8 : Nat) ^ n ≤ 8 ^ k := Nat.pow_le_pow_right (by omega) h
theorem psinv_num (h : PsInv a b rs fs lf) : ∀ i : Nat, rs.getD i 0 < 2 ^ 62 ∧ -2 ^ 62 < rs.getD i 0 := by
  intro i
  obtain ⟨M, h1, _, h3⟩ := h.bnd
  have h4 := bnd_getD h1 i
  have h5 : M ≤ M * 8 ^ lf.toNat := Nat.le_mul_of_pos_right _ (Nat.pow_pos (by omega))
  have h6 : (8 : Nat) ^ (psMany a b).toNat ≤ 8 ^ 9 := pow_mono8 _ _ (by have := h.inp.la; unfold psMany; omega)
  have h7 : M ≤ 128 * 8 ^ 9 := by omega
  omega

theorem psinv_step (h : PsInv a b rs fs lf) (hb : (b.length : Int) ≤ rs.length) :
    PsInv a b (zsub (zscale rs (b.getLastD 0)) (zraise (zscale b (rs.getD (-1 + (rs.length : Int)).toNat 0)) ((rs.length : Int) - b.length).toNat))
      (zsub (zscale fs (b.getLastD 0)) (zraise [-rs.getD (-1 + (rs.length : Int)).toNat 0] ((rs.length : Int) - b.length).toNat)) (lf - 1) ∧ 1 ≤ lf := by
  have hb0 := h.inp.lb0
  have hlen : (rs.length : Int) + 1 ≤ lf + b.length := by rcases h.len with q | q <;> omega
  have hlf : 1 ≤ lf := by omega
  have hm := h.hm
  have e1 : (-1 + (rs.length : Int)).toNat = rs.length - 1 := by omega
  have e2 : ((rs.length : Int) - b.length).toNat = rs.length - b.length := by omega
  rw [e1, e2]
  generalize hk : rs.length - b.length = k
  generalize hn : rs.getD (rs.length - 1) 0 = number
  generalize hf : b.getLastD 0 = first
  have hl4 := inok_lead h.inp
  rw [hf] at hl4
  have hbl : b.getD (b.length - 1) 0 = first := by rw [← lastD_getD, hf]
  have rl : (zsub (zscale rs first) (zraise (zscale b number) k)).length ≤ rs.length - 1 := by
    refine trimmed_len (zsub_trimmed _ _) fun i hi => ?_
    rw [zsub_getD, zscale_getD, zraise_getD, zscale_getD]
    by_cases c : i = rs.length - 1
    · subst c
      have : ¬ rs.length - 1 < k := by omega
      rw [if_neg this, show rs.length - 1 - k = b.length - 1 by omega, hbl, hn, Int.mul_comm]
      omega
    · rw [getD_ge rs i (by omega), getD_ge b (i - k) (by omega)]
      split <;> simp
  have hM8 : (psMany a b) ≤ 9 := by have := h.inp.la; unfold psMany; omega
  refine ⟨⟨h.inp, by omega, by omega, .inl (by omega), ?_, zsub_trimmed _ _, zsub_trimmed _ _, by have := h.rlen; omega, fun x => ?_, ?_⟩, hlf⟩
  · have hmp : 0 ≤ psMany a b := by unfold psMany; omega
    have : (zsub (zscale fs first) (zraise [-number] k)).length ≤ (psMany a b).toNat := by
      refine trimmed_len (zsub_trimmed _ _) fun i hi => ?_
      have hfl := h.flen
      rw [zsub_getD, zscale_getD, zraise_getD, getD_ge fs i (by omega), getD_ge [-number] (i - k) (by simp; omega)]
      split <;> simp
    omega
  · have := h.id x
    rw [hf] at this
    have e3 : (psMany a b - (lf - 1)).toNat = (psMany a b - lf).toNat + 1 := by omega
    rw [e3, Int.pow_succ, ev_zsub, ev_zsub, ev_zscale, ev_zscale, ev_zraise, ev_zraise, ev_zscale]
    have e4 : ev [-number] x = -number := by simp [ev]
    rw [e4, hf]
    exact step_id _ _ _ _ _ _ _ _ this
  · obtain ⟨M, h1, h2, h3⟩ := h.bnd
    have hfb : -((4 : Nat) : Int) ≤ first ∧ first ≤ ((4 : Nat) : Int) := by omega
    have hnb := bnd_getD h1 (rs.length - 1)
    rw [hn] at hnb
    refine ⟨8 * M, bnd_of_getD fun i => ?_, bnd_of_getD fun i => ?_, ?_⟩
    · rw [zsub_getD, zscale_getD, zraise_getD, zscale_getD]
      have q1 := mul_bound (bnd_getD h1 i) hfb
      split
      · omega
      · have q2 := mul_bound (bnd_getD h.inp.bb (i - k)) hnb
        omega
    · rw [zsub_getD, zscale_getD, zraise_getD]
      have q1 := mul_bound (bnd_getD h2 i) hfb
      split
      · omega
      · have q2 : -(M : Int) ≤ [-number].getD (i - k) 0 ∧ [-number].getD (i - k) 0 ≤ M := by
          cases i - k with
          | zero => simp; omega
          | succ j => simp
        omega
    · have e5 : lf.toNat = (lf - 1).toNat + 1 := by omega
      rw [e5, Nat.pow_succ] at h3
      calc 8 * M * 8 ^ (lf - 1).toNat = M * (8 ^ (lf - 1).toNat * 8) := by
            rw [Nat.mul_comm 8 M, Nat.mul_assoc, Nat.mul_comm 8]
        _ ≤ _ := h3
end

structure PsPost (a b qs rs : List Int) : Prop where
  rlen : rs.length < b.length
  qlen : qs.length ≤ 9
  tr : Trimmed rs
  tq : Trimmed qs
  id : ∀ x, (b.getLastD 0) ^ (psMany a b).toNat * ev a x = ev qs x * ev b x + ev rs x

theorem psinv_end {a b rs fs : List Int} {lf : Int} (h : PsInv a b rs fs lf) (hb : ¬ (b.length : Int) ≤ rs.length) :
    PsPost a b (zscale fs ((b.getLastD 0) ^ lf.toNat)) (zscale rs ((b.getLastD 0) ^ lf.toNat)) := by
  have hl4 := inok_lead h.inp
  have hp := pow_pos_le hl4.1 hl4.2 lf.toNat
  have h0 := h.h0
  have hm := h.hm
  refine ⟨?_, ?_, zscale_trimmed h.tr (by omega), zscale_trimmed h.tf (by omega), fun x => ?_⟩
  · have := zscale_length rs ((b.getLastD 0) ^ lf.toNat); omega
  · have := zscale_length fs ((b.getLastD 0) ^ lf.toNat)
    have := h.flen; have := h.inp.la; unfold psMany at *; omega
  · have := h.id x
    have e : (psMany a b).toNat = (psMany a b - lf).toNat + lf.toNat := by omega
    rw [e, Int.pow_add, ev_zscale, ev_zscale]
    exact end_id _ _ _ _ _ _ this
end Mine
end
-- ZxDef
section
namespace Mine
def quo (b : List Int) : Nat → (Nat → Int) → Option (List Int)
  | 0, f => if (List.range (b.length - 1)).all (fun i => f i == 0) then some [] else none
  | n + 1, f =>
    if f (n + b.length - 1) % b.getLastD 0 = 0 then
      (quo b n (fun i => f i - if i < n then 0 else b.getD (i - n) 0 * (f (n + b.length - 1) / b.getLastD 0))).map (· ++ [f (n + b.length - 1) / b.getLastD 0])
    else none
def zx (a b : List Int) : Option (List Int) := (quo b (a.length + 1 - b.length) (fun i => a.getD i 0)).map trim
structure ZxInv (a b rs fs : List Int) : Prop where
  inp : InOk a b
  tr : Trimmed rs
  rlen : rs.length ≤ 8
  fl : fs.length = a.length + 1 - b.length
  fz : ∀ j, j < rs.length + 1 - b.length → fs.getD j 0 = 0
  ml : rs.length + 1 - b.length ≤ fs.length
  eq : zx a b = (quo b (rs.length + 1 - b.length) (fun i => rs.getD i 0)).map (fun q => trim (q ++ fs.drop (rs.length + 1 - b.length)))
  bnd : ∃ M : Nat, Bnd rs M ∧ M * 5 ^ rs.length ≤ 128 * 5 ^ 8
end Mine
end
-- ZxMath
section
namespace Mine
theorem quo_len {b : List Int} : ∀ {n : Nat} {f : Nat → Int} {q : List Int}, quo b n f = some q → q.length = n
  | 0, f, q, h => by
    rw [quo] at h
    split at h
    · cases h; rfl
    · cases h
  | n + 1, f, q, h => by
    rw [quo] at h
    split at h
    · obtain ⟨p, hp, e⟩ := Option.map_eq_some_iff.mp h
      rw [← e, List.length_append, quo_len hp]; rfl
    · cases h

theorem quo_zero_top {b : List Int} (hb : 0 < b.length) (n : Nat) (f : Nat → Int) (hz : f (n + b.length - 1) = 0) : quo b (n + 1) f = (quo b n f).map (· ++ [0]) := by
  have e : (fun i => f i - if i < n then 0 else b.getD (i - n) 0 * (f (n + b.length - 1) / b.getLastD 0)) = f := by
    funext i
    rw [hz]
    split <;> simp
  rw [quo, e, hz]
  simp

theorem quo_shrink {b : List Int} (hb : 0 < b.length) (f : Nat → Int) (m : Nat) (hz : ∀ i, m + b.length - 1 ≤ i → f i = 0) : ∀ j, quo b (m + j) f = (quo b m f).map (· ++ List.replicate j 0)
  | 0 => by simp
  | j + 1 => by
    have e : m + (j + 1) = (m + j) + 1 := by omega
    rw [e, quo_zero_top hb (m + j) f (hz _ (by omega)), quo_shrink hb f m hz j, Option.map_map]
    congr 1
    funext q
    simp [Function.comp, List.replicate_succ', List.append_assoc]

theorem trim_append_zeros (l : List Int) (k : Nat) : trim (l ++ List.replicate k 0) = trim l := by
  induction l with
  | nil =>
    induction k with
    | zero => rfl
    | succ k ih =>
      have ih' : trim (List.replicate k 0) = [] := ih
      show trim (0 :: List.replicate k 0) = []
      simp [trim, ih']
  | cons x r ih => rw [List.cons_append, trim, trim, ih]

theorem list_ext_getD {a b : List Int} (hl : a.length = b.length) (h : ∀ i, a.getD i 0 = b.getD i 0) : a = b := by
  refine List.ext_getElem hl fun i h1 h2 => ?_
  have := h i
  rw [List.getD_eq_getElem?_getD, List.getD_eq_getElem?_getD, List.getElem?_eq_getElem h1, List.getElem?_eq_getElem h2] at this
  exact this

theorem zxinv_start {a b : List Int} (h : InOk a b) : ZxInv a b a (List.replicate (if (a.length : Int) - b.length + 1 > 0 then (a.length : Int) - b.length + 1 else 0).toNat [0]).flatten := by
  have e : (if (a.length : Int) - b.length + 1 > 0 then (a.length : Int) - b.length + 1 else 0).toNat = a.length + 1 - b.length := by split <;> omega
  have e2 : ∀ k : Nat, (List.replicate k [(0 : Int)]).flatten = List.replicate k 0 := fun k => by
    induction k with
    | zero => rfl
    | succ k ih => simp [List.replicate_succ, ih]
  rw [e, e2]
  refine ⟨h, h.ta, h.la, by simp, fun j hj => ?_, by simp, ?_, 128, h.ba, ?_⟩
  · rw [List.getD_eq_getElem?_getD, List.getElem?_replicate]; split <;> rfl
  · rw [List.drop_of_length_le (by simp)]
    simp only [List.append_nil]
    rfl
  · exact Nat.mul_le_mul_left _ (Nat.pow_le_pow_right (by omega) h.la)
section
variable {a b rs fs : List Int}
theorem zxinv_flen (h : ZxInv a b rs fs) : fs.length ≤ 1000 := by
  have := h.fl; have := h.inp.la; omega
theorem last_int (b : List Int) (h : 0 < b.length) : b.getD (-1 + (b.length : Int)).toNat 0 = b.getLastD 0 := getD_last b (by omega)
theorem zxinv_lead (h : ZxInv a b rs fs) : 1 ≤ b.getD (-1 + (b.length : Int)).toNat 0 := by
  rw [last_int b h.inp.lb0]; exact h.inp.lead
theorem zxinv_lead4 (h : ZxInv a b rs fs) : b.getD (-1 + (b.length : Int)).toNat 0 ≤ 4 := by
  rw [last_int b h.inp.lb0]; exact (inok_lead h.inp).2
theorem div_bound {x d : Int} {M : Nat} (h : -(M : Int) ≤ x ∧ x ≤ M) (hd : 1 ≤ d) : -(M : Int) ≤ x / d ∧ x / d ≤ M := by
  have h1 : x / d * d + x % d = x := Int.ediv_mul_add_emod x d
  have h2 := Int.emod_nonneg x (show d ≠ 0 by omega)
  have h3 := Int.emod_lt_of_pos x (show 0 < d by omega)
  refine ⟨?_, ?_⟩
  · refine Int.le_ediv_of_mul_le (by omega) ?_
    have : -(M : Int) * d ≤ -(M : Int) * 1 := by
      rw [Int.neg_mul, Int.neg_mul]
      have := Int.mul_le_mul_of_nonneg_left hd (show (0 : Int) ≤ M by omega)
      omega
    omega
  · refine Int.ediv_le_of_le_mul (by omega) ?_
    have := Int.mul_le_mul_of_nonneg_left hd (show (0 : Int) ≤ M by omega)
    omega
theorem zxinv_M (h : ZxInv a b rs fs) : ∃ M : Nat, Bnd rs M ∧ M * 5 ^ rs.length ≤ 128 * 5 ^ 8 ∧ M ≤ 128 * 5 ^ 8 := by
  obtain ⟨M, h1, h2⟩ := h.bnd
  exact ⟨M, h1, h2, Nat.le_trans (Nat.le_mul_of_pos_right _ (Nat.pow_pos (by omega))) h2⟩
theorem zxinv_num (h : ZxInv a b rs fs) : Int.fdiv (rs.getD (-1 + (rs.length : Int)).toNat 0) (b.getD (-1 + (b.length : Int)).toNat 0) < 2 ^ 62 ∧ -2 ^ 62 < Int.fdiv (rs.getD (-1 + (rs.length : Int)).toNat 0) (b.getD (-1 + (b.length : Int)).toNat 0) := by
  have hl := zxinv_lead h
  obtain ⟨M, h1, _, h3⟩ := zxinv_M h
  rw [Int.fdiv_eq_ediv_of_nonneg _ (by omega)]
  have := div_bound (bnd_getD h1 (-1 + (rs.length : Int)).toNat) hl
  omega

theorem zxinv_none (h : ZxInv a b rs fs) (hb : (b.length : Int) ≤ rs.length) (hm : Int.fmod (rs.getD (-1 + (rs.length : Int)).toNat 0) (b.getD (-1 + (b.length : Int)).toNat 0) ≠ 0) : zx a b = none := by
  have hb0 := h.inp.lb0
  have hl := zxinv_lead h
  rw [Int.fmod_eq_emod_of_nonneg _ (by omega), last_int b hb0] at hm
  have e : rs.length + 1 - b.length = (rs.length - b.length) + 1 := by omega
  have e1 : (-1 + (rs.length : Int)).toNat = rs.length - b.length + b.length - 1 := by omega
  rw [e1] at hm
  rw [h.eq, e, quo, if_neg hm]
  rfl

theorem zxinv_step (h : ZxInv a b rs fs) (hb : (b.length : Int) ≤ rs.length) (hm : Int.fmod (rs.getD (-1 + (rs.length : Int)).toNat 0) (b.getD (-1 + (b.length : Int)).toNat 0) = 0) :
    ZxInv a b (zsub rs (zraise (zscale b (Int.fdiv (rs.getD (-1 + (rs.length : Int)).toNat 0) (b.getD (-1 + (b.length : Int)).toNat 0))) ((rs.length : Int) - b.length).toNat))
      (fs.set ((rs.length : Int) - b.length).toNat (Int.fdiv (rs.getD (-1 + (rs.length : Int)).toNat 0) (b.getD (-1 + (b.length : Int)).toNat 0))) ∧
    (zsub rs (zraise (zscale b (Int.fdiv (rs.getD (-1 + (rs.length : Int)).toNat 0) (b.getD (-1 + (b.length : Int)).toNat 0))) ((rs.length : Int) - b.length).toNat)).length < rs.length := by
  have hb0 := h.inp.lb0
  have hl := zxinv_lead h
  have hl4 := zxinv_lead4 h
  rw [Int.fmod_eq_emod_of_nonneg _ (by omega)] at hm
  rw [Int.fdiv_eq_ediv_of_nonneg _ (by omega)]
  rw [last_int b hb0] at hm hl hl4 ⊢
  have e1 : (-1 + (rs.length : Int)).toNat = rs.length - 1 := by omega
  have e2 : ((rs.length : Int) - b.length).toNat = rs.length - b.length := by omega
  rw [e1] at hm
  rw [e1, e2]
  obtain ⟨k, hk⟩ : ∃ k, rs.length = k + b.length := ⟨rs.length - b.length, by omega⟩
  have e3 : rs.length - b.length = k := by omega
  have e4 : rs.length - 1 = k + b.length - 1 := by omega
  rw [e3]
  rw [e4] at hm ⊢
  clear e1 e2 e3 e4 hb
  have hbl : b.getD (b.length - 1) 0 = b.getLastD 0 := by rw [← lastD_getD]
  have hdm : rs.getD (k + b.length - 1) 0 / b.getLastD 0 * b.getLastD 0 = rs.getD (k + b.length - 1) 0 := Int.ediv_mul_cancel (Int.dvd_of_emod_eq_zero hm)
  have hq : quo b (k + 1) (fun i => rs.getD i 0) = (quo b k (fun i => rs.getD i 0 - if i < k then 0 else b.getD (i - k) 0 * (rs.getD (k + b.length - 1) 0 / b.getLastD 0))).map (· ++ [rs.getD (k + b.length - 1) 0 / b.getLastD 0]) := by
    rw [quo, if_pos hm]
  have hqb : ∀ M : Nat, Bnd rs M → -(M : Int) ≤ rs.getD (k + b.length - 1) 0 / b.getLastD 0 ∧ rs.getD (k + b.length - 1) 0 / b.getLastD 0 ≤ M := fun M hM => div_bound (bnd_getD hM _) hl
  generalize hqv : rs.getD (k + b.length - 1) 0 / b.getLastD 0 = q at *
  have hcf : ∀ i, (zsub rs (zraise (zscale b q) k)).getD i 0 = rs.getD i 0 - if i < k then 0 else b.getD (i - k) 0 * q := fun i => by
    rw [zsub_getD, zraise_getD, zscale_getD]
  have hfun : (fun i => (zsub rs (zraise (zscale b q) k)).getD i 0) = (fun i => rs.getD i 0 - if i < k then 0 else b.getD (i - k) 0 * q) := funext hcf
  have rl : (zsub rs (zraise (zscale b q) k)).length ≤ k + b.length - 1 := by
    refine trimmed_len (zsub_trimmed _ _) fun i hi => ?_
    rw [hcf i, if_neg (by omega)]
    by_cases c : i = k + b.length - 1
    · subst c
      rw [show k + b.length - 1 - k = b.length - 1 by omega, hbl, Int.mul_comm, hdm]
      omega
    · rw [getD_ge rs i (by omega), getD_ge b (i - k) (by omega)]
      simp
  have hml := h.ml
  have e5 : rs.length + 1 - b.length = k + 1 := by omega
  rw [e5] at hml
  have hfz : ∀ j, j < k + 1 → fs.getD j 0 = 0 := fun j hj => h.fz j (by omega)
  have heq := h.eq
  rw [e5] at heq
  clear e5
  generalize hrs' : zsub rs (zraise (zscale b q) k) = rs' at *
  refine ⟨⟨h.inp, hrs' ▸ zsub_trimmed _ _, by have := h.rlen; omega, by rw [List.length_set]; exact h.fl, fun j hj => ?_, by rw [List.length_set]; omega, ?_, ?_⟩, by omega⟩
  · have hjk : j < k := by omega
    rw [List.getD_eq_getElem?_getD, List.getElem?_set_ne (by omega), ← List.getD_eq_getElem?_getD]
    exact hfz j (by omega)
  · have hsh := quo_shrink hb0 (fun i => rs'.getD i 0) (rs'.length + 1 - b.length) (fun i hi => getD_ge _ _ (by omega)) (k - (rs'.length + 1 - b.length))
    rw [show rs'.length + 1 - b.length + (k - (rs'.length + 1 - b.length)) = k by omega] at hsh
    rw [heq, hq, ← hfun, hsh, Option.map_map, Option.map_map]
    cases hqq : quo b (rs'.length + 1 - b.length) (fun i => rs'.getD i 0) with
    | none => rfl
    | some p =>
      simp only [Option.map_some, Function.comp]
      congr 2
      have hd : (fs.set k q).drop (rs'.length + 1 - b.length) = List.replicate (k - (rs'.length + 1 - b.length)) 0 ++ (q :: fs.drop (k + 1)) := by
        generalize hm' : rs'.length + 1 - b.length = m
        have hmk : m ≤ k := by omega
        refine list_ext_getD ?_ fun i => ?_
        · simp
          omega
        · rw [List.getD_eq_getElem?_getD, List.getElem?_drop, List.getD_eq_getElem?_getD, List.getElem?_append, List.length_replicate]
          by_cases c : i < k - m
          · rw [if_pos c, List.getElem?_set_ne (by omega), List.getElem?_replicate, if_pos c, ← List.getD_eq_getElem?_getD, hfz _ (by omega)]
            rfl
          · rw [if_neg c]
            by_cases c2 : m + i = k
            · rw [show i - (k - m) = 0 by omega, c2, List.getElem?_set_self (by omega)]
              rfl
            · rw [List.getElem?_set_ne (by omega), show i - (k - m) = (i - (k - m) - 1) + 1 by omega, List.getElem?_cons_succ, List.getElem?_drop]
              congr 2
              omega
      rw [hd]
      simp [List.append_assoc]
  · obtain ⟨M, h1, h2⟩ := h.bnd
    refine ⟨5 * M, bnd_of_getD fun i => ?_, ?_⟩
    · rw [hcf i]
      have q0 := bnd_getD h1 i
      split
      · omega
      · have q2 := mul_bound (bnd_getD h.inp.bb (i - k)) (hqb M h1)
        omega
    · have h5 : 5 ^ (rs'.length + 1) ≤ 5 ^ rs.length := Nat.pow_le_pow_right (by omega) (by omega)
      have h6 : M * 5 ^ (rs'.length + 1) ≤ M * 5 ^ rs.length := Nat.mul_le_mul_left _ h5
      rw [Nat.pow_succ] at h6
      have h7 : 5 * M * 5 ^ rs'.length = M * (5 ^ rs'.length * 5) := by
        rw [Nat.mul_comm 5 M, Nat.mul_assoc, Nat.mul_comm 5]
      omega

theorem zxinv_end (h : ZxInv a b rs fs) (hb : ¬ (b.length : Int) ≤ rs.length) : zx a b = if rs.length = 0 then some (trim fs) else none := by
  have e : rs.length + 1 - b.length = 0 := by omega
  rw [h.eq, e, quo]
  by_cases c : rs.length = 0
  · have : rs = [] := List.length_eq_zero_iff.mp c
    subst this
    simp
  · rw [if_neg c, if_neg]
    · rfl
    · intro hall
      rcases h.tr with q | q
      · rw [q] at c; exact c rfl
      · rw [lastD_getD] at q
        have := List.all_eq_true.mp hall (rs.length - 1) (List.mem_range.mpr (by omega))
        exact q (by simpa using this)
end
end Mine
end
-- TrimMath
section
namespace Mine
theorem trim_of_trimmed {l : List Int} (h : Trimmed l) : trim l = l := by
  have h1 : (trim l).length = l.length := by
    have a := trim_length_le l
    have b := trimmed_len h (k := (trim l).length) fun i hi => by rw [← trim_getD]; exact getD_ge _ _ hi
    omega
  exact list_ext_getD h1 (trim_getD l)
theorem trim_ext {a b : List Int} (h : ∀ i, a.getD i 0 = b.getD i 0) : trim a = trim b := by
  have ha := trim_trimmed a
  have hb := trim_trimmed b
  have e : ∀ i, (trim a).getD i 0 = (trim b).getD i 0 := fun i => by rw [trim_getD, trim_getD, h]
  have h1 := trimmed_len ha (k := (trim b).length) fun i hi => by rw [e]; exact getD_ge _ _ hi
  have h2 := trimmed_len hb (k := (trim a).length) fun i hi => by rw [← e]; exact getD_ge _ _ hi
  exact list_ext_getD (by omega) e
theorem take_getD (l : List Int) (k i : Nat) : (l.take k).getD i 0 = if i < k then l.getD i 0 else 0 := by
  rw [List.getD_eq_getElem?_getD, List.getElem?_take]
  split
  · rw [List.getD_eq_getElem?_getD]
  · rfl
theorem trim_take (l : List Int) (h : 0 < (l.length : Int)) (hz : l.getD (-1 + (l.length : Int)).toNat 0 = 0) : trim (l.take (l.length - 1)) = trim l := by
  refine trim_ext fun i => ?_
  rw [take_getD]
  split
  · rfl
  · have e : (-1 + (l.length : Int)).toNat = l.length - 1 := by omega
    rw [e] at hz
    by_cases c : i = l.length - 1
    · rw [c, hz]
    · rw [getD_ge _ _ (by omega)]
theorem trim_stop (l : List Int) (h : 0 < (l.length : Int)) (hz : l.getD (-1 + (l.length : Int)).toNat 0 ≠ 0) : trim l = l := by
  refine trim_of_trimmed (.inr ?_)
  rw [← getD_last l h]; exact hz
theorem trim_mem {l : List Int} {y : Int} (h : y ∈ trim l) : y ∈ l := by
  have hl := trim_length_le l
  obtain ⟨i, hi, e⟩ := List.getElem_of_mem h
  have := trim_getD l i
  rw [List.getD_eq_getElem?_getD, List.getD_eq_getElem?_getD, List.getElem?_eq_getElem hi, List.getElem?_eq_getElem (by omega : i < l.length)] at this
  rw [← e]
  have e2 : (trim l)[i] = l[i] := by simpa using this
  rw [e2]
  exact List.getElem_mem _
theorem trim_nil_of {l : List Int} (h : decide (l = []) = true) : trim l = l := by
  have : l = [] := by simpa using h
  subst this; rfl
end Mine
end
-- WorthMath
section
namespace Mine
def worthL (ns : List Int) (x : Int) : List Int := (List.range ns.length).map fun i => ns.getD i 0 * x ^ i
theorem worth_from (ns : List Int) (x : Int) : ∀ k, ((List.range ns.length).map fun i => ns.getD i 0 * x ^ (i + k)).sum = x ^ k * ev ns x := by
  induction ns with
  | nil => intro k; simp [ev]
  | cons c r ih =>
    intro k
    rw [List.length_cons, List.range_succ_eq_map, List.map_cons, List.map_map, List.sum_cons]
    have := ih (k + 1)
    have e : (fun i => (c :: r).getD i 0 * x ^ (i + k)) ∘ Nat.succ = fun i => r.getD i 0 * x ^ (i + (k + 1)) := by
      funext i
      simp only [Function.comp_apply, List.getD_cons_succ]
      rw [show Nat.succ i + k = i + (k + 1) by omega]
    rw [e, this]
    simp only [ev, List.getD_cons_zero, Nat.zero_add]
    rw [Int.pow_succ]
    generalize x ^ k = P
    grind
theorem worth_sum (ns : List Int) (x : Int) : (worthL ns x).sum = ev ns x := by
  have := worth_from ns x 0
  simpa [worthL] using this
theorem pow_small {x : Int} (h : -4 ≤ x ∧ x ≤ 4) (n : Nat) : -(4 : Int) ^ n ≤ x ^ n ∧ x ^ n ≤ 4 ^ n := by
  induction n with
  | zero => simp
  | succ n ih =>
    have e : ∀ k : Nat, ((4 ^ k : Nat) : Int) = (4 : Int) ^ k := fun k => by rw [Int.natCast_pow]; rfl
    have := mul_bound (M := 4 ^ n) (N := 4) (x := x ^ n) (y := x) (by rw [e]; exact ih) (by omega)
    rw [Int.pow_succ, Int.pow_succ, ← e]
    have e2 : ((4 ^ n * 4 : Nat) : Int) = ((4 ^ n : Nat) : Int) * 4 := by omega
    rw [e2] at this
    exact ⟨by have := this.1; omega, this.2⟩
theorem pow_small62 {x : Int} (h : -4 ≤ x ∧ x ≤ 4) (n : Nat) (hn : n ≤ 20) : x ^ n < 2 ^ 62 ∧ -2 ^ 62 < x ^ n := by
  have h1 := pow_small h n
  have h3 : (4 : Nat) ^ n ≤ 4 ^ 20 := Nat.pow_le_pow_right (by omega) hn
  have h4 : (4 : Int) ^ n ≤ 4 ^ 20 := by
    have := Int.ofNat_le.mpr h3
    rw [Int.natCast_pow, Int.natCast_pow] at this
    exact this
  omega
end Mine
namespace Mine
theorem trimmed_bad {l : List Int} (h : Trimmed l) (hp : 0 < (l.length : Int)) (hz : l.getD (-1 + (l.length : Int)).toNat 0 = 0) : False := by
  rcases h with h | h
  · subst h; simp at hp
  · rw [getD_last l hp] at hz; exact h hz
theorem ev_bound4 {x : Int} (h : -4 ≤ x ∧ x ≤ 4) : ∀ (l : List Int), Bnd l 4 → -(4 * 5 ^ l.length : Nat) ≤ ev l x ∧ ev l x ≤ (4 * 5 ^ l.length : Nat)
  | [], _ => by simp [ev]
  | c :: r, hb => by
    have ih := ev_bound4 h r fun y hy => hb y (List.mem_cons_of_mem _ hy)
    have hc := hb c List.mem_cons_self
    have hm := mul_bound (M := 4) (N := 4 * 5 ^ r.length) (x := x) (y := ev r x) (by omega) ih
    have hp : 1 ≤ 5 ^ r.length := Nat.one_le_pow _ _ (by omega)
    rw [ev, List.length_cons, Nat.pow_succ]
    omega
theorem psr_evb {a b : List Int} (h : InOk a b) {x : Int} (hx : -4 ≤ x ∧ x ≤ 4) : ev b x < 2 ^ 62 ∧ -2 ^ 62 < ev b x := by
  have h1 := ev_bound4 hx b h.bb
  have h2 : 5 ^ b.length ≤ 5 ^ 4 := Nat.pow_le_pow_right (by omega) h.lb
  omega
theorem psr_pow {a b : List Int} (h : InOk a b) : (b.getD (-1 + (b.length : Int)).toNat 0) ^ (psMany a b).toNat < 2 ^ 62 ∧ -2 ^ 62 < (b.getD (-1 + (b.length : Int)).toNat 0) ^ (psMany a b).toNat := by
  rw [last_int b h.lb0]
  have h1 := inok_lead h
  have h2 := pow_pos_le h1.1 h1.2 (psMany a b).toNat
  have h3 : (4 : Nat) ^ (psMany a b).toNat ≤ 4 ^ 9 := Nat.pow_le_pow_right (by omega) (by have := h.la; unfold psMany; omega)
  have h4 : (4 : Int) ^ (psMany a b).toNat ≤ 4 ^ 9 := by
    have := Int.ofNat_le.mpr h3
    rw [Int.natCast_pow, Int.natCast_pow] at this
    exact this
  omega
theorem psr_abs {a b : List Int} (h : InOk a b) : (b.getD (-1 + (b.length : Int)).toNat 0).natAbs < 2 ^ 64 := by
  rw [last_int b h.lb0]
  have h1 := inok_lead h
  omega
theorem psMany_range {a b : List Int} (h : InOk a b) : 0 ≤ psMany a b ∧ psMany a b ≤ 1000000 := by
  have := h.la; unfold psMany; omega
end Mine
namespace Mine
theorem pos_of_dec2 {l : List Int} (h : decide (l = []) = false) : 0 < (l.length : Int) := by
  have h' : l ≠ [] := by simpa using h
  have := List.length_pos_iff.mpr h'
  omega
end Mine
end
-- QuoMath
section
namespace Mine
def convN (a : Nat → Int) (b : List Int) : Nat → Nat → Int
  | 0, _ => 0
  | n + 1, i => convN a b n i + (if i < n then 0 else b.getD (i - n) 0 * a n)
theorem convN_big {a : Nat → Int} {b : List Int} : ∀ (n i : Nat), n + b.length ≤ i + 1 → convN a b n i = 0
  | 0, _, _ => rfl
  | n + 1, i, h => by
    rw [convN, convN_big n i (by omega)]
    rw [getD_ge b (i - n) (by omega)]
    simp
theorem quo_conv {a : Nat → Int} {b : List Int} (hb : 0 < b.length) (hl : 1 ≤ b.getLastD 0) : ∀ n, quo b n (convN a b n) = some ((List.range n).map a)
  | 0 => by
    rw [quo, if_pos]
    · rfl
    · simp [convN]
  | n + 1 => by
    have hbl : b.getD (b.length - 1) 0 = b.getLastD 0 := by rw [← lastD_getD]
    have e0 : convN a b (n + 1) (n + b.length - 1) = b.getLastD 0 * a n := by
      rw [convN, convN_big n _ (by omega), if_neg (by omega)]
      have : n + b.length - 1 - n = b.length - 1 := by omega
      rw [this, hbl]
      omega
    have hd : convN a b (n + 1) (n + b.length - 1) / b.getLastD 0 = a n := by
      rw [e0, Int.mul_ediv_cancel_left _ (by omega)]
    have hm : convN a b (n + 1) (n + b.length - 1) % b.getLastD 0 = 0 := by
      rw [e0, Int.mul_emod_right]
    have ef : (fun i => convN a b (n + 1) i - if i < n then 0 else b.getD (i - n) 0 * (convN a b (n + 1) (n + b.length - 1) / b.getLastD 0)) = convN a b n := by
      funext i
      rw [hd, convN]
      omega
    rw [quo, if_pos hm, ef, quo_conv hb hl n, hd, List.range_succ]
    simp
/-- quo looks at the first n + b.length - 1 places alone -/
theorem quo_congr {b : List Int} (hb : 0 < b.length) : ∀ (n : Nat) {f g : Nat → Int}, (∀ i, i < n + b.length - 1 → f i = g i) → quo b n f = quo b n g
  | 0, f, g, h => by
    have e : (List.range (b.length - 1)).all (fun i => f i == 0) = (List.range (b.length - 1)).all (fun i => g i == 0) := by
      rw [Bool.eq_iff_iff, List.all_eq_true, List.all_eq_true]
      constructor
      · intro h1 x hx; rw [← h x (by have := List.mem_range.mp hx; omega)]; exact h1 x hx
      · intro h1 x hx; rw [h x (by have := List.mem_range.mp hx; omega)]; exact h1 x hx
    rw [quo, quo, e]
  | n + 1, f, g, h => by
    have e := h (n + b.length - 1) (by omega)
    rw [quo, quo, e, quo_congr hb n (g := fun i => g i - if i < n then 0 else b.getD (i - n) 0 * (g (n + b.length - 1) / b.getLastD 0))]
    intro i hi
    show f i - _ = g i - _
    rw [h i (by omega)]
theorem range_getD (a : List Int) : (List.range a.length).map (fun k => a.getD k 0) = a := by
  refine List.ext_getElem (by simp) fun i h1 h2 => ?_
  simp [List.getD_eq_getElem?_getD, List.getElem?_eq_getElem h2]
theorem zx_of_conv {a b c : List Int} (hb : 0 < b.length) (hl : 1 ≤ b.getLastD 0) (hlen : c.length + 1 - b.length = a.length) (hc : ∀ i, i < a.length + b.length - 1 → c.getD i 0 = convN (fun k => a.getD k 0) b a.length i) : zx c b = some (trim a) := by
  rw [zx, hlen, quo_congr hb a.length hc, quo_conv hb hl, range_getD]
  rfl
theorem convN_sum (a : Nat → Int) (b : List Int) (n i : Nat) : convN a b n i = ((List.range n).map fun k => if i < k then 0 else b.getD (i - k) 0 * a k).sum := by
  induction n with
  | zero => rfl
  | succ n ih => rw [convN, ih, List.range_succ, List.map_append, List.sum_append]; simp
end Mine
end
-- FracMath
section
namespace Mine
abbrev Fr2 := Int × Int
def fstep (b : List Int) (n : Nat) (f : Nat → Fr2) (i : Nat) : Fr2 :=
  ((f i).1 * ((f (n + b.length - 1)).2 * b.getLastD 0) - (if i < n then 0 else b.getD (i - n) 0) * (f (n + b.length - 1)).1 * (f i).2, (f i).2 * ((f (n + b.length - 1)).2 * b.getLastD 0))
def ftop (b : List Int) (n : Nat) (f : Nat → Fr2) : Fr2 := ((f (n + b.length - 1)).1, (f (n + b.length - 1)).2 * b.getLastD 0)
/-- the fraction run from n steps before its end: are the rest's numbers 0 and the quotients whole; the quotients -/
def fok (b : List Int) : Nat → (Nat → Fr2) → Bool
  | 0, f => (List.range (b.length - 1)).all fun i => (f i).1 == 0
  | n + 1, f => ((ftop b n f).1 % (ftop b n f).2 == 0) && fok b n (fstep b n f)
def fquo (b : List Int) : Nat → (Nat → Fr2) → List Fr2
  | 0, _ => []
  | n + 1, f => fquo b n (fstep b n f) ++ [ftop b n f]
theorem quo_frac {b : List Int} (hl : 1 ≤ b.getLastD 0) : ∀ (n : Nat) (f : Nat → Fr2) (g : Nat → Int), (∀ i, 0 < (f i).2 ∧ (f i).1 = g i * (f i).2) →
    quo b n g = if fok b n f then some ((fquo b n f).map fun p => p.1 / p.2) else none
  | 0, f, g, h => by
    have e : ∀ i, ((f i).1 == 0) = (g i == 0) := fun i => by
      rw [(h i).2]
      have := (h i).1
      rw [Bool.eq_iff_iff, beq_iff_eq, beq_iff_eq]
      constructor
      · intro q
        rcases Int.mul_eq_zero.mp q with q | q
        · exact q
        · omega
      · intro q; rw [q, Int.zero_mul]
    rw [quo, fok, fquo]
    simp only [e, List.map_nil]
  | n + 1, f, g, h => by
    have ht := h (n + b.length - 1)
    rw [quo, fok, fquo]
    have hu : 0 < (f (n + b.length - 1)).2 * b.getLastD 0 := Int.mul_pos ht.1 (by omega)
    have em : (ftop b n f).1 % (ftop b n f).2 = (f (n + b.length - 1)).2 * (g (n + b.length - 1) % b.getLastD 0) := by
      show (f (n + b.length - 1)).1 % ((f (n + b.length - 1)).2 * b.getLastD 0) = _
      rw [ht.2, Int.mul_comm (g _), Int.mul_emod_mul_of_pos _ _ ht.1]
    by_cases c : g (n + b.length - 1) % b.getLastD 0 = 0
    · have ed : (ftop b n f).1 / (ftop b n f).2 = g (n + b.length - 1) / b.getLastD 0 := by
        show (f (n + b.length - 1)).1 / ((f (n + b.length - 1)).2 * b.getLastD 0) = _
        rw [ht.2, Int.mul_comm (g _), Int.mul_ediv_mul_of_pos _ _ ht.1]
      have eq : (f (n + b.length - 1)).1 = g (n + b.length - 1) / b.getLastD 0 * ((f (n + b.length - 1)).2 * b.getLastD 0) := by
        have := Int.ediv_mul_cancel (Int.dvd_of_emod_eq_zero c)
        rw [Int.mul_comm (f _).2, ← Int.mul_assoc, this, ht.2]
      have hs : ∀ i, 0 < (fstep b n f i).2 ∧ (fstep b n f i).1 = (g i - if i < n then 0 else b.getD (i - n) 0 * (g (n + b.length - 1) / b.getLastD 0)) * (fstep b n f i).2 := fun i => by
        refine ⟨Int.mul_pos (h i).1 hu, ?_⟩
        show (f i).1 * ((f (n + b.length - 1)).2 * b.getLastD 0) - (if i < n then 0 else b.getD (i - n) 0) * (f (n + b.length - 1)).1 * (f i).2 = _ * ((f i).2 * ((f (n + b.length - 1)).2 * b.getLastD 0))
        rw [eq, (h i).2]
        generalize (f (n + b.length - 1)).2 * b.getLastD 0 = u
        generalize g (n + b.length - 1) / b.getLastD 0 = q
        generalize (f i).2 = dd
        generalize g i = gi
        by_cases ci : i < n
        · rw [if_pos ci, if_pos ci]; simp [Int.mul_assoc]
        · rw [if_neg ci, if_neg ci]
          generalize b.getD (i - n) 0 = l
          rw [Int.sub_mul]
          congr 1
          · rw [Int.mul_assoc]
          · simp only [Int.mul_assoc, Int.mul_comm, Int.mul_left_comm]
      rw [if_pos c, quo_frac hl n (fstep b n f) _ hs, em, c, Int.mul_zero]
      by_cases o : fok b n (fstep b n f) = true
      · simp [o, ed]
      · simp [o]
    · have : ((ftop b n f).1 % (ftop b n f).2 == 0) = false := by
        rw [em]
        apply Bool.eq_false_iff.mpr
        intro q
        rcases Int.mul_eq_zero.mp (beq_iff_eq.mp q) with q | q
        · omega
        · exact c q
      rw [if_neg c, this]
      simp
end Mine
end
-- FracMath2
section
namespace Mine
theorem fstep_congr {b : List Int} (hb : 0 < b.length) {n : Nat} {f g : Nat → Fr2} (h : ∀ i, i < n + 1 + b.length - 1 → f i = g i) : ∀ i, i < n + b.length - 1 → fstep b n f i = fstep b n g i := by
  intro i hi
  unfold fstep
  rw [h i (by omega), h (n + b.length - 1) (by omega)]
theorem fok_congr {b : List Int} (hb : 0 < b.length) : ∀ (n : Nat) {f g : Nat → Fr2}, (∀ i, i < n + b.length - 1 → f i = g i) → fok b n f = fok b n g
  | 0, f, g, h => by
    rw [fok, fok, Bool.eq_iff_iff, List.all_eq_true, List.all_eq_true]
    constructor
    · intro h1 x hx; rw [← h x (by have := List.mem_range.mp hx; omega)]; exact h1 x hx
    · intro h1 x hx; rw [h x (by have := List.mem_range.mp hx; omega)]; exact h1 x hx
  | n + 1, f, g, h => by
    rw [fok, fok, fok_congr hb n (fstep_congr hb h)]
    unfold ftop
    rw [h (n + b.length - 1) (by omega)]
theorem fquo_congr {b : List Int} (hb : 0 < b.length) : ∀ (n : Nat) {f g : Nat → Fr2}, (∀ i, i < n + b.length - 1 → f i = g i) → fquo b n f = fquo b n g
  | 0, f, g, h => rfl
  | n + 1, f, g, h => by
    rw [fquo, fquo, fquo_congr hb n (fstep_congr hb h)]
    unfold ftop
    rw [h (n + b.length - 1) (by omega)]
def fgetD (rs : List Fr2) (i : Nat) : Fr2 := rs.getD i (0, 1)
def whole1 (p : Fr2) : Bool := p.1 % p.2 == 0
def lstep (b : List Int) (rs : List Fr2) : List Fr2 := (List.range (rs.length - 1)).map (fstep b (rs.length - b.length) (fgetD rs))
def Bd2 (k : Nat) (p : Fr2) : Prop := p.1.natAbs < 2 ^ k ∧ p.2.natAbs < 2 ^ k ∧ 0 < p.2
structure LInv (a b : List Int) (rs qs : List Fr2) : Prop where
  inp : InOk a b
  len : rs.length ≤ 8
  ql : qs.length ≤ 8 - rs.length
  eq : zx a b = if fok b (rs.length + 1 - b.length) (fgetD rs) && qs.all whole1 then some (trim ((fquo b (rs.length + 1 - b.length) (fgetD rs) ++ qs).map fun p => p.1 / p.2)) else none
  br : ∃ k : Nat, (∀ p ∈ rs, Bd2 k p) ∧ (k + 3) * 2 ^ rs.length ≤ 11 * 2 ^ 8
  bq : ∀ p ∈ qs, Bd2 6000 p
theorem lstep_len (b : List Int) (rs : List Fr2) : (lstep b rs).length = rs.length - 1 := by simp [lstep]
theorem fgetD_mem {rs : List Fr2} {i : Nat} (h : i < rs.length) : fgetD rs i ∈ rs := by
  unfold fgetD
  rw [List.getD_eq_getElem?_getD, List.getElem?_eq_getElem h]
  exact List.getElem_mem h
theorem lstep_getD {b : List Int} {rs : List Fr2} {i : Nat} (h : i < rs.length - 1) : fgetD (lstep b rs) i = fstep b (rs.length - b.length) (fgetD rs) i := by
  conv => lhs; unfold fgetD lstep
  rw [List.getD_eq_getElem?_getD, List.getElem?_map, List.getElem?_range h]
  rfl
theorem linv_start {a b : List Int} (h : InOk a b) : LInv a b (a.map fun n => (n, 1)) [] := by
  have hf : ∀ i, fgetD (a.map fun n => ((n, 1) : Fr2)) i = (a.getD i 0, 1) := fun i => by
    unfold fgetD
    rw [List.getD_eq_getElem?_getD, List.getD_eq_getElem?_getD, List.getElem?_map]
    cases a[i]? <;> rfl
  refine ⟨h, by rw [List.length_map]; exact h.la, Nat.zero_le _, ?_, ⟨8, ?_, ?_⟩, fun p hp => nomatch hp⟩
  · rw [List.length_map, zx, quo_frac h.lead (a.length + 1 - b.length) (fgetD (a.map fun n => ((n, 1) : Fr2))) (fun i => a.getD i 0) (fun i => by rw [hf]; exact ⟨Int.one_pos, (Int.mul_one _).symm⟩)]
    by_cases c : fok b (a.length + 1 - b.length) (fgetD (a.map fun n => ((n, 1) : Fr2))) = true <;> simp [c]
  · intro p hp
    obtain ⟨n, hn, rfl⟩ := List.mem_map.mp hp
    have := h.ba n hn
    exact ⟨by show n.natAbs < 2 ^ 8; omega, by show (1 : Int).natAbs < 2 ^ 8; decide, by show (0 : Int) < 1; decide⟩
  · rw [List.length_map]
    exact Nat.mul_le_mul_left _ (Nat.pow_le_pow_right (by omega) h.la)
theorem bd_step {k : Nat} {n d o td l c : Int} (h1 : n.natAbs < 2 ^ k) (h2 : d.natAbs < 2 ^ k) (h3 : o.natAbs < 2 ^ k) (h4 : td.natAbs < 2 ^ k) (hl : l.natAbs ≤ 4) (hc : c.natAbs ≤ 4) :
    (n * (td * l) - c * o * d).natAbs < 2 ^ (2 * k + 3) ∧ (d * (td * l)).natAbs < 2 ^ (2 * k + 3) := by
  have e : (2 : Nat) ^ (2 * k + 3) = 2 ^ k * 2 ^ k * 8 := by rw [Nat.pow_add, Nat.two_mul, Nat.pow_add]
  have m1 : n.natAbs * (td.natAbs * l.natAbs) ≤ 2 ^ k * 2 ^ k * 4 := by
    rw [← Nat.mul_assoc]; exact Nat.mul_le_mul (Nat.mul_le_mul (Nat.le_of_lt h1) (Nat.le_of_lt h4)) hl
  have m2 : d.natAbs * (td.natAbs * l.natAbs) ≤ 2 ^ k * 2 ^ k * 4 := by
    rw [← Nat.mul_assoc]; exact Nat.mul_le_mul (Nat.mul_le_mul (Nat.le_of_lt h2) (Nat.le_of_lt h4)) hl
  have m3 : c.natAbs * o.natAbs * d.natAbs < 2 ^ k * 2 ^ k * 4 := by
    have : c.natAbs * o.natAbs * d.natAbs = o.natAbs * d.natAbs * c.natAbs := by rw [Nat.mul_assoc, Nat.mul_comm]
    rw [this]
    have hlt : o.natAbs * d.natAbs < 2 ^ k * 2 ^ k := Nat.mul_lt_mul_of_lt_of_le h3 (Nat.le_of_lt h2) (Nat.pow_pos (by omega))
    have h9 := Nat.mul_le_mul_left (o.natAbs * d.natAbs) hc
    exact Nat.lt_of_le_of_lt h9 (Nat.mul_lt_mul_of_pos_right hlt (by omega))
  have hp : 0 < 2 ^ k * 2 ^ k := Nat.mul_pos (Nat.pow_pos (by omega)) (Nat.pow_pos (by omega))
  rw [e]
  have a1 := Int.natAbs_sub_le (n * (td * l)) (c * o * d)
  simp only [Int.natAbs_mul] at a1 ⊢
  generalize 2 ^ k * 2 ^ k = P at *
  omega
theorem linv_step {a b : List Int} {rs qs : List Fr2} (h : LInv a b rs qs) (hb : b.length ≤ rs.length) : LInv a b (lstep b rs) (ftop b (rs.length - b.length) (fgetD rs) :: qs) := by
  have hb0 := h.inp.lb0
  have hl := h.inp.lead
  have hl4 := (inok_lead h.inp).2
  have e1 : rs.length + 1 - b.length = (rs.length - b.length) + 1 := by omega
  have e2 : (lstep b rs).length + 1 - b.length = rs.length - b.length := by rw [lstep_len]; omega
  have e3 : rs.length - b.length + b.length - 1 = rs.length - 1 := by omega
  have hc : ∀ i, i < rs.length - b.length + b.length - 1 → fgetD (lstep b rs) i = fstep b (rs.length - b.length) (fgetD rs) i := fun i hi => lstep_getD (by omega)
  obtain ⟨k, hk, hk2⟩ := h.br
  have ht := hk _ (fgetD_mem (rs := rs) (i := rs.length - 1) (by omega))
  have hu : 0 < (fgetD rs (rs.length - 1)).2 * b.getLastD 0 := Int.mul_pos ht.2.2 (by omega)
  have hcoef : ∀ i n : Nat, (if i < n then (0 : Int) else b.getD (i - n) 0).natAbs ≤ 4 := fun i n => by
    split
    · decide
    · have := bnd_getD h.inp.bb (i - n); omega
  have hk8 : k + 3 ≤ 11 * 2 ^ 8 := Nat.le_trans (Nat.le_mul_of_pos_right _ (Nat.pow_pos (by omega))) hk2
  have hlen : rs.length - 1 + 1 = rs.length := by omega
  refine ⟨h.inp, by rw [lstep_len]; have := h.len; omega, by rw [lstep_len, List.length_cons]; have := h.ql; have := h.len; omega, ?_, ⟨2 * k + 3, ?_, ?_⟩, ?_⟩
  · rw [h.eq, e1, e2, fok, fquo, fok_congr hb0 _ hc, fquo_congr hb0 _ hc, List.all_cons]
    have : whole1 (ftop b (rs.length - b.length) (fgetD rs)) = ((ftop b (rs.length - b.length) (fgetD rs)).1 % (ftop b (rs.length - b.length) (fgetD rs)).2 == 0) := rfl
    rw [this, List.append_assoc, List.singleton_append]
    generalize ((ftop b (rs.length - b.length) (fgetD rs)).1 % (ftop b (rs.length - b.length) (fgetD rs)).2 == 0) = A
    generalize fok b (rs.length - b.length) (fstep b (rs.length - b.length) (fgetD rs)) = B
    cases A <;> cases B <;> rfl
  · intro p hp
    obtain ⟨i, hi, rfl⟩ := List.mem_map.mp hp
    have hi' := List.mem_range.mp hi
    have hm := hk _ (fgetD_mem (rs := rs) (i := i) (by omega))
    have hbs := bd_step (l := b.getLastD 0) hm.1 hm.2.1 ht.1 ht.2.1 (by omega) (hcoef i (rs.length - b.length))
    unfold fstep
    rw [e3]
    exact ⟨hbs.1, hbs.2, Int.mul_pos hm.2.2 hu⟩
  · rw [lstep_len]
    have : 2 * k + 3 + 3 = (k + 3) * 2 := by omega
    rw [this, Nat.mul_assoc, ← Nat.pow_succ']
    show (k + 3) * 2 ^ (rs.length - 1 + 1) ≤ 11 * 2 ^ 8
    rw [hlen]
    exact hk2
  · intro p hp
    rcases List.mem_cons.mp hp with rfl | hp
    · unfold ftop
      rw [e3]
      have hp2 : ∀ j, 2 ^ (j + 2) = 2 ^ j * 4 := fun j => by rw [Nat.pow_add]
      have hmono : 2 ^ (k + 2) ≤ 2 ^ 6000 := Nat.pow_le_pow_right (by omega) (by omega)
      have hpk : 2 ^ k ≤ 2 ^ (k + 2) := Nat.pow_le_pow_right (by omega) (by omega)
      refine ⟨Nat.lt_of_lt_of_le ht.1 (Nat.le_trans hpk hmono), Nat.lt_of_lt_of_le ?_ hmono, hu⟩
      show ((fgetD rs (rs.length - 1)).2 * b.getLastD 0).natAbs < 2 ^ (k + 2)
      rw [Int.natAbs_mul, hp2]
      exact Nat.mul_lt_mul_of_lt_of_le ht.2.1 (by omega) (by omega)
    · exact h.bq p hp
theorem linv_end {a b : List Int} {rs qs : List Fr2} (h : LInv a b rs qs) (hb : rs.length < b.length) :
    zx a b = if (rs.all fun p => p.1 == 0) && qs.all whole1 then some (trim (qs.map fun p => p.1 / p.2)) else none := by
  have e1 : rs.length + 1 - b.length = 0 := by omega
  have e2 : ((List.range (b.length - 1)).all fun i => (fgetD rs i).1 == 0) = rs.all fun p => p.1 == 0 := by
    rw [Bool.eq_iff_iff, List.all_eq_true, List.all_eq_true]
    constructor
    · intro h1 p hp
      obtain ⟨i, hi, rfl⟩ := List.getElem_of_mem hp
      have := h1 i (List.mem_range.mpr (by omega))
      unfold fgetD at this
      rw [List.getD_eq_getElem?_getD, List.getElem?_eq_getElem hi] at this
      exact this
    · intro h1 i _
      by_cases c : i < rs.length
      · exact h1 _ (fgetD_mem c)
      · unfold fgetD
        rw [List.getD_eq_getElem?_getD, List.getElem?_eq_none (by omega)]
        rfl
  rw [h.eq, e1, fok, fquo, e2, List.nil_append]
end Mine
end
-- LeftMath
section
open PySem PySem.W PySem.Spec PySem.Calls PyProof.Rows
set_option maxRecDepth 100000
namespace Mine
theorem intBits_pow {x : Int} {k : Nat} (h : x.natAbs < 2 ^ k) : Builtin.Int.intBits x ≤ k := PyProof.Rows.intBits_le h
theorem mulok_pow {x y : Int} {k : Nat} (hk : k ≤ 1000000) (hx : x.natAbs < 2 ^ k) (hy : y.natAbs < 2 ^ k) : IntMulOk x y :=
  IntMulOk.of_bits (Nat.le_trans (intBits_pow hx) (Nat.le_trans hk (by decide))) (Nat.le_trans (intBits_pow hy) (Nat.le_trans hk (by decide)))

section
variable {prog : Program} {w : World} {A : Around} {E : Value → Shared → Prop} {s : Shared} {h₀ : Heap} {L : Addr} {m : Str → Option Value}
theorem append_own {fd : Addr} {fv : List Value} {fn : Nat} {x : Value} {Q : Value → Shared → Prop} (pre post : List (Addr × Obj)) (F : Fr h₀ L s.heap m) (N : News h₀ L s.heap (pre ++ (fd, listOf fv.toArray fn) :: post))
    (h1 : ∀ p ∈ pre, p.1 ≠ fd) (h2 : ∀ p ∈ post, p.1 ≠ fd) (hsz : fv.toArray.size ≤ sizeLine)
    (h : ∀ h', Fr h₀ L h' m → News h₀ L h' (pre ++ (fd, listOf (fv ++ [x]).toArray (fn + 1)) :: post) → Q .none { s with heap := h' }) :
    wpAny (model prog w) A (call (.builtin "list.append") [.ref fd, x]) Q E s := by
  have hm := N (fd, listOf fv.toArray fn) (List.mem_append_right _ (.head _))
  refine append_at (hsz := hsz) hm.1 fun h' hs hD => h h' (F.change hs hm.2.1 hm.2.2) fun p hp => ?_
  rcases List.mem_append.mp hp with hp | hp
  · have z := N p (List.mem_append_left _ hp)
    exact ⟨hs.extBut _ _ (h1 p hp) z.1, z.2⟩
  rcases List.mem_cons.mp hp with rfl | hp
  · refine ⟨?_, hm.2⟩
    rw [hD]
    simp [W.listOf]
  · have z := N p (List.mem_append_right _ (.tail _ hp))
    exact ⟨hs.extBut _ _ (h2 p hp) z.1, z.2⟩
end

theorem linv_lead {a b : List Int} {rs qs : List Fr2} (h : LInv a b rs qs) : 1 ≤ b.getLastD 0 ∧ b.getLastD 0 ≤ 4 := ⟨h.inp.lead, (inok_lead h.inp).2⟩
theorem linv_turn {a b : List Int} {rs qs : List Fr2} (h : LInv a b rs qs) {i : Nat} (hi : i < rs.length - 1) {ov un : Int} (ho : (fgetD rs (rs.length - 1)).1 = ov) (hu : (fgetD rs (rs.length - 1)).2 * b.getD (-1 + (b.length : Int)).toNat 0 = un) :
    IntMulOk (fgetD rs i).1 un ∧ (∀ j, IntMulOk (b.getD j 0) ov) ∧ IntMulOk 0 ov ∧ (∀ j, IntMulOk (b.getD j 0 * ov) (fgetD rs i).2) ∧ IntMulOk (0 * ov) (fgetD rs i).2 ∧ IntMulOk (fgetD rs i).2 un := by
  obtain ⟨k, hk, hk2⟩ := h.br
  have ht := hk _ (fgetD_mem (rs := rs) (i := rs.length - 1) (by omega))
  have hm := hk _ (fgetD_mem (rs := rs) (i := i) (by omega))
  have hl := linv_lead h
  rw [last_int b h.inp.lb0] at hu
  have hk8 : k + 3 ≤ 11 * 2 ^ 8 := Nat.le_trans (Nat.le_mul_of_pos_right _ (Nat.pow_pos (by omega))) hk2
  have e3 : 2 ^ (k + 3) = 2 ^ k * 8 := by rw [Nat.pow_add]
  have hK : k + 3 ≤ 1000000 := by omega
  have hp : 0 < 2 ^ k := Nat.pow_pos (by omega)
  have up : ∀ {x : Int}, x.natAbs < 2 ^ k → x.natAbs < 2 ^ (k + 3) := fun hx => by omega
  have u1 : un.natAbs < 2 ^ (k + 3) := by
    rw [← hu, Int.natAbs_mul, e3]
    exact Nat.mul_lt_mul_of_lt_of_le ht.2.1 (by omega) (by omega)
  have o1 : ov.natAbs < 2 ^ k := ho ▸ ht.1
  have cc : ∀ j, (b.getD j 0).natAbs ≤ 4 := fun j => by have := bnd_getD h.inp.bb j; omega
  have c1 : ∀ j, (b.getD j 0).natAbs < 2 ^ (k + 3) := fun j => by have := cc j; omega
  have c2 : ∀ j, (b.getD j 0 * ov).natAbs < 2 ^ (k + 3) := fun j => by
    rw [Int.natAbs_mul, e3, Nat.mul_comm]
    exact Nat.mul_lt_mul_of_lt_of_le o1 (by have := cc j; omega) (by omega)
  have z1 : (0 : Int).natAbs < 2 ^ (k + 3) := by simp; omega
  have z2 : (0 * ov).natAbs < 2 ^ (k + 3) := by simp; omega
  clear hk2 hk8 e3 hp
  exact ⟨mulok_pow hK (up hm.1) u1, fun j => mulok_pow hK (c1 j) (up o1), mulok_pow hK z1 (up o1), fun j => mulok_pow hK (c2 j) (up hm.2.1), mulok_pow hK z2 (up hm.2.1), mulok_pow hK (up hm.2.1) u1⟩
theorem fstep_less {b : List Int} {rs : List Fr2} (hb0 : 0 < b.length) (hb : b.length ≤ rs.length) {i : Nat} {ov un : Int} (ho : (fgetD rs (rs.length - 1)).1 = ov) (hu : (fgetD rs (rs.length - 1)).2 * b.getD (-1 + (b.length : Int)).toNat 0 = un) (hi : (rs.length : Int) - b.length ≤ i) :
    fstep b (rs.length - b.length) (fgetD rs) i = ((fgetD rs i).1 * un - b.getD ((i : Int) - ((rs.length : Int) - b.length)).toNat 0 * ov * (fgetD rs i).2, (fgetD rs i).2 * un) := by
  rw [last_int b hb0] at hu
  have e1 : rs.length - b.length + b.length - 1 = rs.length - 1 := by omega
  have e2 : ((i : Int) - ((rs.length : Int) - b.length)).toNat = i - (rs.length - b.length) := by omega
  unfold fstep
  rw [e1, e2, ho, hu, if_neg (by omega)]
theorem fstep_zero {b : List Int} {rs : List Fr2} (hb0 : 0 < b.length) (hb : b.length ≤ rs.length) {i : Nat} {ov un : Int} (ho : (fgetD rs (rs.length - 1)).1 = ov) (hu : (fgetD rs (rs.length - 1)).2 * b.getD (-1 + (b.length : Int)).toNat 0 = un) (hi : ¬ (rs.length : Int) - b.length ≤ i) :
    fstep b (rs.length - b.length) (fgetD rs) i = ((fgetD rs i).1 * un - 0 * ov * (fgetD rs i).2, (fgetD rs i).2 * un) := by
  rw [last_int b hb0] at hu
  have e1 : rs.length - b.length + b.length - 1 = rs.length - 1 := by omega
  unfold fstep
  rw [e1, ho, hu, if_pos (by omega)]
theorem ftop_eq {b : List Int} {rs : List Fr2} (hb0 : 0 < b.length) (hb : b.length ≤ rs.length) {ov un : Int} (ho : (fgetD rs (rs.length - 1)).1 = ov) (hu : (fgetD rs (rs.length - 1)).2 * b.getD (-1 + (b.length : Int)).toNat 0 = un) :
    ftop b (rs.length - b.length) (fgetD rs) = (ov, un) := by
  rw [last_int b hb0] at hu
  have e1 : rs.length - b.length + b.length - 1 = rs.length - 1 := by omega
  unfold ftop
  rw [e1, ho, hu]
end Mine
end
-- Calm
section
open PySem PySem.W PySem.Spec PySem.Calls PyProof.Rows
set_option maxRecDepth 100000
namespace Mine
/-- what a change of an object must leave -/
def SoftF (f : Obj → Obj) : Prop := ∀ o, (f o).dict = o.dict ∧ (o.isFreed = false → (f o).isFreed = false)
/-- a tree that calls nothing and leaves each object's attribute table -/
def Calm {α : Type} : Sem α → Prop
  | .pure _ => True
  | .raise _ => True
  | .unsupported _ => True
  | .finish _ => True
  | .rule _ k => Calm (k ())
  | .at _ k => Calm (k ())
  | .load _ _ k => ∀ o, Calm (k o)
  | .update _ _ f k => SoftF f ∧ Calm (k ())
  | .loadIfAlive _ k => ∀ o, Calm (k o)
  | .point _ k => Calm (k ())
  | .alloc _ k => ∀ a, Calm (k a)
  | .fresh k => ∀ t, Calm (k t)
  | .ask k => ∀ x, Calm (k x)
  | .stack k => ∀ x, Calm (k x)
  | .handled _ k => ∀ x, Calm (k x)
  | _ => False
theorem calm_bind {α β : Type} : ∀ {m : Sem α} {f : α → Sem β}, Calm m → (∀ a, Calm (f a)) → Calm (Sem.bind m f)
  | .pure a, f, _, h => h a
  | .raise _, _, _, _ => trivial
  | .unsupported _, _, _, _ => trivial
  | .finish _, _, _, _ => trivial
  | .rule _ k, f, hm, h => calm_bind (m := k ()) hm h
  | .at _ k, f, hm, h => calm_bind (m := k ()) hm h
  | .load _ _ k, f, hm, h => fun o => calm_bind (m := k o) (hm o) h
  | .update _ _ _ k, f, hm, h => ⟨hm.1, calm_bind (m := k ()) hm.2 h⟩
  | .loadIfAlive _ k, f, hm, h => fun o => calm_bind (m := k o) (hm o) h
  | .point _ k, f, hm, h => calm_bind (m := k ()) hm h
  | .alloc _ k, f, hm, h => fun o => calm_bind (m := k o) (hm o) h
  | .fresh k, f, hm, h => fun o => calm_bind (m := k o) (hm o) h
  | .ask k, f, hm, h => fun o => calm_bind (m := k o) (hm o) h
  | .stack k, f, hm, h => fun o => calm_bind (m := k o) (hm o) h
  | .handled _ k, f, hm, h => fun o => calm_bind (m := k o) (hm o) h
  | .register _ _, _, hm, _ => hm.elim
  | .choose _ _ _, _, hm, _ => hm.elim
  | .os _ _ _, _, hm, _ => hm.elim
  | .call _ _ _ _ _, _, hm, _ => hm.elim
  | .newGen _ _, _, hm, _ => hm.elim
  | .genState _ _, _, hm, _ => hm.elim
  | .resume _ _ _ _, _, hm, _ => hm.elim
  | .yield _ _ _ _, _, hm, _ => hm.elim
  | .fork _ _, _, hm, _ => hm.elim
  | .thread _, _, hm, _ => hm.elim
  | .await _ _ _ _ _, _, hm, _ => hm.elim
theorem calm_bindM {α β : Type} {m : Sem α} {f : α → Sem β} (hm : Calm m) (h : ∀ a, Calm (f a)) : Calm (m >>= f) := calm_bind hm h
/-- each object keeps its attribute table -/
def DictsStay (h h' : Heap) : Prop := ∀ b o, h.get? b = some o → ∃ o', h'.get? b = some o' ∧ o'.dict = o.dict
theorem DictsStay.refl (h : Heap) : DictsStay h h := fun _ o e => ⟨o, e, rfl⟩
theorem DictsStay.trans {h₁ h₂ h₃ : Heap} (x : DictsStay h₁ h₂) (y : DictsStay h₂ h₃) : DictsStay h₁ h₃ := fun b o e => by
  obtain ⟨o1, e1, d1⟩ := x b o e
  obtain ⟨o2, e2, d2⟩ := y b o1 e1
  exact ⟨o2, e2, d2.trans d1⟩
theorem DictsStay.update {h : Heap} {a : Addr} {f : Obj → Obj} (hf : SoftF f) : DictsStay h (h.update a f) := fun b o e => by
  by_cases c : a = b
  · subst c
    exact ⟨f o, Heap.get?_update_self f e ((hf o).2 (Heap.get?_some_iff.mp e).2), (hf o).1⟩
  · exact ⟨o, (Heap.get?_update_other h f c).trans e, rfl⟩
theorem DictsStay.push {h : Heap} (o : Obj) : DictsStay h (h.push o) := fun _ o' e => ⟨o', Heap.get?_push_of_some o e, rfl⟩
theorem calm_wp {α : Type} {M : Model} {Γ : PySem.Ctx} {h₀ : Heap} : ∀ (t : Sem α) {Q : α → PySem.Pos → Shared → Prop} {E : Value → PySem.Pos → Shared → Prop} {p : PySem.Pos} {s : Shared}, Calm t → DictsStay h₀ s.heap → Sem.wp M Γ t Q E p s →
    Sem.wp M Γ t (fun a p' s' => Q a p' s' ∧ DictsStay h₀ s'.heap) (fun e p' s' => E e p' s' ∧ DictsStay h₀ s'.heap) p s
  | .pure _, _, _, _, _, _, hd, h => ⟨h, hd⟩
  | .raise _, _, _, _, _, _, hd, h => ⟨h, hd⟩
  | .unsupported _, _, _, _, _, _, _, h => h
  | .finish _, _, _, _, _, _, _, h => h
  | .rule _ k, _, _, _, _, hc, hd, h => calm_wp (k ()) hc hd h
  | .at _ k, _, _, _, _, hc, hd, h => calm_wp (k ()) hc hd h
  | .load _ _ k, _, _, _, _, hc, hd, h => by
    obtain ⟨o, ho, h⟩ := h
    exact ⟨o, ho, calm_wp (k o) (hc o) hd h⟩
  | .update _ _ _ k, _, _, _, _, hc, hd, h => ⟨h.1, calm_wp (k ()) hc.2 (hd.trans (DictsStay.update hc.1)) h.2⟩
  | .loadIfAlive _ k, _, _, _, _, hc, hd, h => calm_wp (k _) (hc _) hd h
  | .point _ k, _, _, _, _, hc, hd, h => calm_wp (k ()) hc hd h
  | .alloc o k, _, _, _, _, hc, hd, h => calm_wp (k _) (hc _) (hd.trans (DictsStay.push o)) h
  | .fresh k, _, _, _, _, hc, hd, h => calm_wp (k _) (hc _) hd h
  | .ask k, _, _, _, _, hc, hd, h => calm_wp (k _) (hc _) hd h
  | .stack k, _, _, _, _, hc, hd, h => calm_wp (k _) (hc _) hd h
  | .handled _ k, _, _, _, _, hc, hd, h => calm_wp (k _) (hc _) hd h
  | .register _ _, _, _, _, _, hc, _, _ => hc.elim
  | .choose _ _ _, _, _, _, _, hc, _, _ => hc.elim
  | .os _ _ _, _, _, _, _, hc, _, _ => hc.elim
  | .call _ _ _ _ _, _, _, _, _, hc, _, _ => hc.elim
  | .newGen _ _, _, _, _, _, hc, _, _ => hc.elim
  | .genState _ _, _, _, _, _, hc, _, _ => hc.elim
  | .resume _ _ _ _, _, _, _, _, hc, _, _ => hc.elim
  | .yield _ _ _ _, _, _, _, _, hc, _, _ => hc.elim
  | .fork _ _, _, _, _, _, hc, _, _ => hc.elim
  | .thread _, _, _, _, _, hc, _, _ => hc.elim
  | .await _ _ _ _ _, _, _, _, _, hc, _, _ => hc.elim
theorem calm_wpAny {α : Type} {M : Model} {A : Around} {t : Sem α} {Q : α → Shared → Prop} {E : Value → Shared → Prop} {s : Shared} (hc : Calm t) (h : wpAny M A t (fun a s' => DictsStay s.heap s'.heap → Q a s') E s) : wpAny M A t Q E s := by
  intro Γ p hΓ
  have := calm_wp (h₀ := s.heap) t hc (DictsStay.refl _) (h Γ p hΓ)
  exact Sem.wp_mono M Γ t (fun _ _ _ x => x.1 x.2) (fun _ _ _ x => x.1) p s this

theorem calm_pure {α : Type} (a : α) : Calm (pure a : Sem α) := trivial
theorem calm_load (a : Addr) : Calm (load a) := fun _ => trivial
theorem calm_uns {α : Type} (x : String) : Calm (unsupported x : Sem α) := trivial
theorem calm_stack : Calm stack := fun _ => trivial
theorem softF_fields (f : Array Value → Array Value) : SoftF (Obj.mapFields f) := by
  rintro ⟨c, d, dt, sl⟩
  cases dt <;> exact ⟨rfl, fun h => h⟩
theorem calm_fieldsOf (v : Value) : Calm (fieldsOf v) := by
  unfold fieldsOf
  split
  · refine calm_bindM (calm_load _) fun o => ?_
    split <;> trivial
  · trivial
theorem calm_field (v : Value) (i : Nat) : Calm (field v i) := by
  unfold field
  refine calm_bindM (calm_fieldsOf v) fun vs => ?_
  split <;> trivial
theorem calm_setField (v : Value) (i : Nat) (x : Value) : Calm (setField v i x) := by
  unfold setField
  split
  · unfold updateField
    refine calm_bindM (calm_load _) fun o => ?_
    split
    · split
      · exact ⟨softF_fields _, trivial⟩
      · trivial
    · trivial
  · trivial
theorem calm_setFlight (v : Value) (f : Option Addr) : Calm (setFlight v f) := by
  unfold setFlight
  refine calm_bindM (calm_field _ _) fun tb => ?_
  split
  · exact calm_setField _ _ _
  · trivial
theorem calm_behind (env : Env) (outer : List Env) : Calm (behindIsImport env outer) := by
  unfold behindIsImport
  split
  · trivial
  · split
    · trivial
    · exact calm_bindM (calm_field _ _) fun _ => trivial
theorem calm_keptBack (env : Env) (b : Bool) : ∀ l, Calm (keptBack env b l)
  | [] => by
    show Calm (if (env.scope.isGenerator || env.scope.isCoroutine) = true then pure Value.none else do
      let x ← underTheClaimsCaller
      pure (if x = true then Value.notImplemented else Value.none))
    split
    · trivial
    · refine calm_bindM ?_ fun _ => ?_
      · unfold underTheClaimsCaller
        exact calm_bindM calm_stack fun _ => trivial
      · trivial
  | _ :: _ => trivial
theorem calm_ready : ∀ l : List Env, Calm (readyFrames l)
  | [] => by unfold readyFrames; trivial
  | env :: outer => by
    unfold readyFrames
    split
    · refine calm_bindM (calm_load _) fun o => ?_
      split
      · trivial
      · refine calm_bindM (calm_behind _ _) fun b => calm_bindM (calm_keptBack _ _ _) fun back => ?_
        refine calm_bindM ?_ fun _ => calm_ready outer
        refine ⟨?_, trivial⟩
        rintro ⟨c, d, dt, sl⟩
        cases dt <;> exact ⟨rfl, fun h => h⟩
    · trivial
theorem calm_frameOf (env : Env) : Calm (PySem.frameOf env) := by
  unfold PySem.frameOf
  refine calm_bindM ?_ fun l => ?_
  · unfold frameEnvs
    exact calm_bindM calm_stack fun _ => trivial
  · refine calm_bindM ?_ fun r => ?_
    · unfold frameObject
      split
      · trivial
      · exact calm_bindM (calm_ready _) fun _ => trivial
    · split <;> trivial
theorem calm_entryPlace (f : Addr) (b : Bool) : Calm (entryPlaceOf f b) := by
  unfold entryPlaceOf
  refine calm_bindM calm_stack fun l => ?_
  split <;> trivial
theorem calm_newAsIs (c : String) (d : Data) : Calm (newObjAsIs (.type c) d) := fun _ => trivial
theorem calm_newEntry (a b c d e : Value) (pl : List Value) : Calm (EntryCells.newEntry a b c d e pl) := by
  unfold EntryCells.newEntry newFields newObj
  generalize ([a, b, c, d, e] ++ if pl.isEmpty = true then List.replicate 6 Value.none else pl).toArray = vs
  show Calm (if vs.size > sizeLine + 2 then (unsupported "record:memory" : Sem PUnit) >>= fun _ => newObjAsIs (.type "traceback") (.fields vs) else newObjAsIs (.type "traceback") (.fields vs))
  split
  · trivial
  · exact calm_newAsIs _ _
theorem calm_noteFrame (e : Value) (env : Env) : Calm (noteFrame e env) := by
  unfold noteFrame
  split
  · refine calm_bindM (calm_field _ _) fun head => ?_
    have last : Calm (do setField e 1 (← EntryCells.newEntry head (← PySem.frameOf env) .none (rawInt ‹Addr›) .none (← entryPlaceOf ‹Addr› (head != .none)))) :=
      calm_bindM (calm_frameOf _) fun _ => calm_bindM (calm_entryPlace _ _) fun _ => calm_bindM (calm_newEntry _ _ _ _ _ _) fun _ => calm_setField _ _ _
    split
    · refine calm_bindM (calm_field _ _) fun fl => ?_
      split
      · trivial
      · exact calm_bindM (calm_setField _ _ _) fun _ => last
    · exact last
  · trivial
theorem calm_leaving (env : Env) (e : Value) : Calm (leaving env e) := by
  unfold leaving
  exact calm_bindM (calm_noteFrame _ _) fun _ => calm_setFlight _ _
end Mine
end
-- RaiseD
section
open PySem PySem.W PySem.Spec PySem.Calls PyProof.Rows
set_option maxRecDepth 100000
namespace Mine
/-- an exception of the class C in flight that keeps its attribute table dd -/
def FlyD (base G : Heap) (l : List Env) (e C dd : Addr) (news : List (Addr × Obj)) (h : Heap) : Prop :=
  RaisedSN base G l e (.ref C) news h ∧ ∃ oe, h.get? e = some oe ∧ oe.dict = some dd
theorem dict_on {h h' : Heap} {e dd : Addr} (k : DictsStay h h') (x : ∃ oe, h.get? e = some oe ∧ oe.dict = some dd) : ∃ oe, h'.get? e = some oe ∧ oe.dict = some dd := by
  obtain ⟨oe, he, hd⟩ := x
  obtain ⟨o', h1, h2⟩ := k e oe he
  exact ⟨o', h1, h2.trans hd⟩
section
variable {M : Model} {A : Around} {E : Value → Shared → Prop} {s' : Shared} {base g g₂ : Heap} {outer : List Env} {L a e C dd : Addr} {m : Str → Option Value} {name : Str} {scope : Scope} {cd : Value} {Q : Unit → Shared → Prop} {news : List (Addr × Obj)}
theorem leave_firstD {oe : Obj} {vs : Array Value} {a0 : Value} (K : Below A base outer g) (F : Fr g L s'.heap m) (N : News g L s'.heap news) (he : s'.heap.get? e = some oe) (hcls : oe.cls = .ref C) (hd : oe.data = .fields vs)
    (h1 : vs[1]? = some .none) (h0 : vs[0]? = some a0) (hdict : oe.dict = some dd) (hge : g.get? e = none) (heL : e ≠ L) (hne : ∀ q ∈ news, q.1 ≠ e)
    (hQ : ∀ h', FlyD base g outer e C dd news h' → g.UpToSlots h' → Q () { s' with heap := h' }) (hk : scope.kind = .function := by rfl) :
    wpAny M (A.deeper (envOf name scope L a cd)) (leaving (envOf name scope L a cd) (.ref e)) Q E s' := by
  have K' := K.push (name := name) (a := a) (cd := cd) F hk
  have fr : ∀ b, b ∈ (envOf name scope L a cd :: outer).filterMap (·.frame) → b = L ∨ b ∈ outer.filterMap (·.frame) := fun b hb => kts_mem hb
  have hin : ∀ env ∈ (envOf name scope L a cd :: outer), ∀ b, env.frame = some b → b ∈ e :: (envOf name scope L a cd :: outer).filterMap (·.frame) := fun env he b hb => .tail _ (List.mem_filterMap.mpr ⟨env, he, hb⟩)
  have bge : base.get? e = none := fresh_of_stays K.stays hge
  have st : base.StaysIn (hideAll s'.heap (e :: (envOf name scope L a cd :: outer).filterMap (·.frame))) := fun b o q => hideAll_get _ (K'.stays b o q) fun hm => by
    rcases List.mem_cons.mp hm with hm | hm
    · rw [hm, bge] at q; cases q
    · rw [(K'.frames.mem hm).1] at q; cases q
  have sg : ∀ b o, g.get? b = some o → b ∉ outer.filterMap (·.frame) → (hideAll s'.heap (e :: (envOf name scope L a cd :: outer).filterMap (·.frame))).get? b = some o := fun b o q nm => hideAll_get _ (F.keep b o q) fun hm => by
    rcases List.mem_cons.mp hm with hm | hm
    · rw [hm, hge] at q; cases q
    · rcases fr b hm with z | z
      · rw [z, kts_self F] at q; cases q
      · exact nm z
  have hl : ∀ q ∈ news, (hideAll s'.heap (e :: (envOf name scope L a cd :: outer).filterMap (·.frame))).get? q.1 = some q.2 ∧ g.get? q.1 = none ∧ base.get? q.1 = none := fun q hq => by
    refine ⟨hideAll_get _ (N q hq).1 fun hm => ?_, (N q hq).2.2, fresh_of_stays K.stays (N q hq).2.2⟩
    rcases List.mem_cons.mp hm with hm | hm
    · exact hne q hq hm
    · rcases fr _ hm with z | z
      · exact (N q hq).2.1 z
      · obtain ⟨env, he, hf⟩ := List.mem_filterMap.mp z
        obtain ⟨o, ho, _⟩ := (K.frames.mem (List.mem_filterMap.mpr ⟨env, he, hf⟩)).2
        rw [(N q hq).2.2] at ho; cases ho
  have hen : (hideAll s'.heap (e :: (envOf name scope L a cd :: outer).filterMap (·.frame))).get? e = none := hideAll_none _ (.head _)
  refine calm_wpAny (calm_leaving _ _) ?_
  refine wpAny_leaving_firstW (a0 := a0) K'.stack (funFrames_hide K'.frames hin) rfl he (fun b o hb => of_hideAll _ hb) hen hd h1 h0 fun h' hL hds => ?_
  obtain ⟨k1, ⟨_, _, k2⟩, k3, k4⟩ := hL
  exact hQ h' ⟨⟨_, a0, st, sg, hl, k1, hen, k2, hcls ▸ k3⟩, dict_on hds ⟨oe, he, hdict⟩⟩ ((Heap.UpToSlots.of_keeps F.keep).trans k4)
theorem leave_nextD (K : Below A base outer g) (F : Fr g L g₂ m) (R : FlyD base g₂ (envOf name scope L a cd :: outer) e C dd news s'.heap) (hsm : g₂.UpToSlots s'.heap)
    (hQ : ∀ h', FlyD base g outer e C dd news h' → g.UpToSlots h' → Q () { s' with heap := h' }) :
    wpAny M (A.deeper (envOf name scope L a cd)) (leaving (envOf name scope L a cd) (.ref e)) Q E s' := by
  refine calm_wpAny (calm_leaving _ _) ?_
  exact leave_onSN K F R.1 hsm fun h' R' _ hu hds => hQ h' ⟨R', dict_on hds R.2⟩ hu
end
section
variable {prog : Program} {w : World} {A₀ : Around} {E : Value → Shared → Prop} {s' : Shared} {base g g₀ G : Heap} {outer : List Env} {L a e C dd : Addr} {m : Str → Option Value} {name : Str} {scope : Scope} {cd : Value}
  {n : Str} {b₀ : Stmt} {suite : List Stmt} {pos np : Pos} {rest : List ExceptHandler} {Q : Flow → Shared → Prop} {news : List (Addr × Obj)} {KF : Frag}
  {p : Program} {loose : List Str} {mean : ExcName → Option Value} {mg mb : Str → Option Value} {x : Str}
theorem caughtD (R : FlyD base G (envOf name scope L a cd :: outer) e C dd news s'.heap) (F : Fr g L G m) (K : Below A₀ base outer g) {news0 : List (Addr × Obj)} (N0 : News g L G news0) (hsm : G.UpToSlots s'.heap) (XB : KF.In base) (TB : Top p loose mean mg mb base)
    (D : KtsDicts (outer.filterMap (·.frame)) g) (T0 : KtsTurn (outer.filterMap (·.frame)) g₀ g)
    (ex : nsIn KF mainGlobals x = some (some (.ref C))) (q : ktsIn KF C "BaseException" = true)
    (k : ∀ h' g' tk oe, KtsTurn (outer.filterMap (·.frame)) g₀ g' → Fr g' L h' (fun y => if y = n then some (.ref e) else m y) → News g' L h' ((e, oe) :: (news ++ news0)) → oe.cls = .ref C → (∃ vs, oe.data = .fields vs) → oe.dict = some dd → Below A₀ base outer g' → KF.In g' → Top p loose mean mg mb g' → KtsDicts (outer.filterMap (·.frame)) g' →
      wpAny (model prog w) ((A₀.deeper (envOf name scope L a cd)).mark (some (.ref e))) (execs (b₀ :: suite) (envOf name scope L a cd))
        (fun f s₄ => wpAny (model prog w) (A₀.deeper (envOf name scope L a cd)) (do bindName (envOf name scope L a cd) n .none; unbindBehindTheSuite (envOf name scope L a cd) n pos) (fun _ s₅ => Q f s₅) E s₄)
        (AsSuiteRaised (model prog w) ((A₀.deeper (envOf name scope L a cd)).mark (some (.ref e))) (envOf name scope L a cd) n pos (notedBy (model prog w) ((A₀.deeper (envOf name scope L a cd)).mark (some (.ref e))) (envOf name scope L a cd) (cameBackBy (model prog w) (A₀.deeper (envOf name scope L a cd)) (envOf name scope L a cd) E)))
        { s' with heap := h', toks := tk })
    (hk : scope.kind = .function := by rfl) (hlo : (envOf name scope L a cd).kindOf n = some .local := by rfl) (hx : (envOf name scope L a cd).kindOf x = some .globalImplicit := by rfl) (hd : (x == ("__debug__" : Str)) = false := by decide) :
    wpAny (model prog w) (A₀.deeper (envOf name scope L a cd)) (noteFrame (.ref e) (envOf name scope L a cd))
      (fun _ s₂ => wpAny (model prog w) (A₀.deeper (envOf name scope L a cd)) (setFlight (.ref e) none) (fun _ s₃ =>
        wpAny (model prog w) (A₀.deeper (envOf name scope L a cd)) (handleBy (.ref e) (envOf name scope L a cd) (.ExceptHandler (some (.Name x np)) (some n) (b₀ :: suite) pos :: rest)) Q E s₃) E s₂) E s' := by
  obtain ⟨⟨B, a0, hB, hBG, hl, hfl⟩, hdict⟩ := R
  have hL : B.get? L = none := by
    obtain ⟨_, ⟨L', _, hf, hn', _⟩, _⟩ := hfl.2.2.1
    obtain rfl : L = L' := Option.some.inj hf
    exact hn'
  refine calm_wpAny (calm_noteFrame _ _) (wpAny_looks_onW (Around.frames_deeper K.stack) rfl hfl fun h₄ hheld₄ hsm₄ hd₄ => ?_)
  refine calm_wpAny (calm_setFlight _ _) (wpAny_landsW hheld₄ fun h₅ hheld hsm₅' hd₅ => ?_)
  have hsm₅ := hsm₄.trans hsm₅'
  obtain ⟨g₅, T₅, F₅, K₅⟩ := kts_ground K F hBG hheld.1 (hsm.trans hsm₅)
  have X₅ : KF.In g₅ := XB.keeps K₅.stays
  have P₅ : TopRead p loose mg mb g₅ := topRead_of (TB.keeps K₅.stays)
  obtain ⟨ob, hob, hobc⟩ := hheld.there
  obtain ⟨nm, q', N, bs, bm, hdct, sn, sub, ab, col, dd', k0, k1, k2, k3, k5, newId, hC, hbase, hbT⟩ := kts_cls X₅ q
  have hC₅ := F₅.keep _ _ hC
  refine wpAny_handleBy_cons (codeAny_handlers_test (name_K F₅ X₅ P₅ ex ?_ hk hx hd)) (by intro q; cases q)
  refine wpAny_excMatches_sub_self hC₅ hob hobc hbase (codeAny_handlers_suite_as ?_)
  refine calm_wpAny (calm_setFlight _ _) (lands_againW hheld fun h₆ hfl₆ hsm₆ hd₆ => ?_)
  obtain ⟨g₆, T₆, F₆, K₆⟩ := kts_ground K F hBG hfl₆.1 ((hsm.trans hsm₅).trans hsm₆)
  obtain ⟨oe, ws, hoe, hoec, hoed, hoe0⟩ := hfl₆.first
  have hdic := dict_on hd₆ (dict_on hd₅ (dict_on hd₄ hdict))
  have ne₆ : g₆.get? e = none := T₆.none_ _ (kts_fresh F hBG hfl₆.2.1 fun o ho m => by
    obtain ⟨_, o', ho', hd⟩ := K.frames.mem m
    rw [ho] at ho'
    cases ho'
    obtain ⟨sl, hs⟩ := ((hsm.trans hsm₅).trans hsm₆) _ _ (F.keep _ _ ho) hd
    rw [hoe] at hs
    cases hs
    exact hd _ hoed)
  have N₆ := News.more F₆ News.nil hoe (fun es n q => by rw [hoed] at q; cases q) ne₆
  have Nl : News g₆ L h₆ news := fun q hq => ⟨hfl₆.1 _ _ (hl q hq).1, (fun z => by have := (hl q hq).1; rw [z, hL] at this; cases this), T₆.none_ _ (kts_none F.keep (hl q hq).2.1)⟩
  have X₆ : KF.In g₆ := XB.keeps K₆.stays
  have P₆ : Top p loose mean mg mb g₆ := TB.keeps K₆.stays
  have D₆ : KtsDicts (outer.filterMap (·.frame)) g₆ := D.turn T₆
  obtain ⟨oe', hoe', hdd⟩ := hdic
  obtain rfl : oe = oe' := Option.some.inj (hoe.symm.trans hoe')
  have N0' : News g₆ L h₆ news0 := fun q hq => by
    have z := N0 q hq
    refine ⟨hfl₆.1 _ _ (hBG _ _ z.1 fun hm => ?_), z.2.1, T₆.none_ _ z.2.2⟩
    rcases kts_mem hm with y | y
    · exact z.2.1 y
    · obtain ⟨_, o, ho, _⟩ := K.frames.mem y
      rw [z.2.2] at ho; cases ho
  refine stN F₆ (news := (e, oe) :: (news ++ news0)) (fun q hq => ?_) (fun h₇ F₇ N₇ => ?_) hk hlo
  · rcases List.mem_cons.mp hq with rfl | hq
    · exact N₆ _ (.head _)
    · rcases List.mem_append.mp hq with hq | hq
      · exact Nl q hq
      · exact N0' q hq
  · exact k h₇ g₆ _ oe (T0.trans T₆) F₇ N₇ hoec ⟨ws, hoed⟩ hdd K₆ X₆ P₆ D₆
end
end Mine
end
-- ExcAttr
section
open PySem PySem.W PySem.Spec PySem.Calls PyProof.Rows
open Builtin Builtin.ObjectAttr
set_option maxRecDepth 100000
namespace Mine
section
variable {prog : Program} {w : World} {A : Around} {E : Value → Shared → Prop} {h : Heap} {g : Array GenState} {d : Drawn} {t : Nat} {os : OsState}
variable {nm q : Str} {C N x dx : Addr} {bs : List Value} {sn : List Str} {sub : List Value} {ab : Bool} {col : Option Bool} {dd : Option Addr} {k0 k1 k2 k3 k5 : Option Value} {newId : String}
  {mN mA : Str → Option Value} {name : Str} {v : Value} {o : Obj}
abbrev excTail : List Value := [.type "Exception", .type "BaseException", .type "object"]
theorem mro_Exc : mroOf (.type "Exception") = pure excTail := PySem.F.store_Exception.mro
theorem exc_load_entry {tk : Tok} {Q : Fin → Shared → Prop}
    (hC : h.get? C = some (excClassObj nm q C N bs excTail true sn sub ab col dd k0 k1 k2 k3 k5 newId)) (hn : h.Ns N mN) (hna : mN name = none)
    (hB : typeLookup (.type "Exception") name = pure none) (hx : h.get? x = some o) (hc : o.cls = .ref C) (hnc : ∀ c, o.data ≠ .cls c) (hdx : o.dict = some dx) (hns : h.Ns dx mA) (hv : mA name = some v) (hq : Q (.done (.ret v)) ⟨h, g, d, t, os⟩) :
    wpAny (model prog w) A (Builtin.«object.__getattribute__» ⟨[.ref x, .str name tk], []⟩) Q E ⟨h, g, d, t, os⟩ := by
  unfold Builtin.«object.__getattribute__»
  repeat (first | (with_reducible refine wpAny_loadPart_at hx ?_; rw [hc]) | (with_reducible refine wpAny_typeLookup_exc hC hn mro_Exc hB ?_; rw [hna]) | wp_step)
  split
  · rename_i c hcd
    exact absurd hcd (hnc c)
  unfold instanceDict
  repeat (first | (with_reducible refine wpAny_loadPart_at hx ?_; rw [hc]) | with_reducible refine wpAny_loadPart_at hC ?_ | wp_step)
  rw [hdx]
  repeat (first | (with_reducible refine wpAny_nsGet hns ?_; rw [hv]) | wp_step)
  exact hq
theorem exc_load_attr {expr : Bool} {Q : Value → Shared → Prop}
    (hC : h.get? C = some (excClassObj nm q C N bs excTail true sn sub ab col dd k0 k1 k2 k3 k5 newId)) (hn : h.Ns N mN) (hng : mN "__getattribute__" = none) (hnh : mN "__getattr__" = none) (hna : mN name = none)
    (hB : typeLookup (.type "Exception") name = pure none) (hx : h.get? x = some o) (hc : o.cls = .ref C) (hnc : ∀ c, o.data ≠ .cls c) (hdx : o.dict = some dx) (hns : h.Ns dx mA) (hv : mA name = some v) (hh : handedOut v = pure v) (hq : Q v ⟨h, g, d, t + 1, os⟩) :
    wpAny (model prog w) A (getAttr (.ref x) name expr) Q E ⟨h, g, d, t, os⟩ := by
  have FB := PySem.F.attrBase_Exception
  have f3 := FB.ga.bind (.ref x)
  have hx2 : (Value.builtin "BaseException.__getattribute__" == Value.builtin "object.__getattribute__") = false := by decide +kernel
  have hx1 : (onTheHeap (Value.ref C) && Value.builtin "BaseException.__getattribute__" == Value.builtin "object.__getattribute__") = false := by rw [hx2]; rfl
  have hk : builtinKind "BaseException.__getattribute__" = some .slot := by decide +kernel
  have hsplit : splitId "BaseException.__getattribute__" = some ("BaseException", "__getattribute__") := by decide +kernel
  have hcB : (Value.ref C :: excTail).contains (.type "BaseException") = true := by rw [List.contains_cons]; rfl
  have hchk : ∀ {M : Model} {A' : Around} {E' : Value → Shared → Prop} {tk : Tok} {t' : Nat} {Q' : Unit → Shared → Prop}, Q' () ⟨h, g, d, t', os⟩ → wpAny M A' (checkBuiltinCall "BaseException.__getattribute__" ⟨[.ref x, .str name tk], []⟩) Q' E' ⟨h, g, d, t', os⟩ := by
    intro M A' E' tk t' Q' hQ'
    have ha := F.args_bexc_ga (.ref x) (.str name tk)
    simp only [checkBuiltinCall, hk, hsplit]
    refine wpAny_bind ?_
    unfold isInstance
    repeat (first | (with_reducible refine wpAny_loadPart_at hx ?_; rw [hc]) | (with_reducible refine wpAny_isSubtype_exc hC ?_; rw [hcB]) | wp_step)
    exact hQ'
  have hcall : ∀ {R : Result → Shared → Prop} {tk : Tok} {t' : Nat}, R (.ok (.ret v)) ⟨h, g, d, t', os⟩ → codeAny (model prog w) A (.call (.builtin "BaseException.__getattribute__") ⟨[.ref x, .str name tk], []⟩) R ⟨h, g, d, t', os⟩ :=
    fun hR => codeAny_call_builtin FB.ga.plain F.entry_bexc_ga (hchk (exc_load_entry hC hn hna hB hx hc hnc hdx hns hv hR))
  have hx0 : (expr && onTheHeap (Value.builtin "BaseException.__getattribute__")) = false := by cases expr <;> rfl
  unfold getAttr getAttrBy
  repeat (any_goals (first | assumption | (with_reducible refine wpAny_loadPart_at hx ?_; rw [hc]) | (with_reducible refine wpAny_typeLookup_exc hC hn mro_Exc FB.ga.lookup ?_; rw [hng]) | (with_reducible refine wpAny_typeLookup_exc hC hn mro_Exc FB.noGetattr ?_; rw [hnh]) | wp_step))
  refine hcall ?_
  repeat (any_goals (first | assumption | wp_step))
/-- the first attribute that an own exception is given: its table is a new object -/
theorem exc_first_entry {tk : Tok} {Q : Fin → Shared → Prop}
    (hC : h.get? C = some (excClassObj nm q C N bs excTail true sn sub ab col dd k0 k1 k2 k3 k5 newId)) (hn : h.Ns N mN) (hna : mN name = none)
    (hB : typeLookup (.type "Exception") name = pure none) (hx : h.get? x = some o) (hc : o.cls = .ref C) (hnc : ∀ c, o.data ≠ .cls c) (hdn : o.dict = none)
    (hq : ∀ h' tk', h'.get? x = some { o with dict := some h.objs.size } → h'.Ns1 h.objs.size (fun y => if y = name then some v else none) → (∀ b ob, b ≠ x → h.get? b = some ob → h'.get? b = some ob) → Q (.done (.ret .none)) ⟨h', g, d, tk', os⟩) :
    wpAny (model prog w) A (Builtin.«object.__setattr__» ⟨[.ref x, .str name tk, v], []⟩) Q E ⟨h, g, d, t, os⟩ := by
  have SF := PySem.F.store_Exception
  have hpass := SF.passes (.ref x)
  have hxs : x ≠ h.objs.size := Nat.ne_of_lt (Heap.lt_size hx)
  have hx₁ : (h.push { cls := .type "dict", data := .dict #[] }).get? x = some o := Heap.get?_push_of_some _ hx
  unfold Builtin.«object.__setattr__»
  repeat (first | rw [refuse_eq] | (rw [refuseLoop_ref, hpass]) | (with_reducible refine wpAny_loadPart_at hx ?_; rw [hc]) | with_reducible refine wpAny_mroOf_exc hC ?_ | (with_reducible refine wpAny_typeLookup_exc hC hn SF.mro hB ?_; rw [hna]) | wp_step)
  rw [hdn, if_neg (by simp [typeHasDict])]
  split
  · rename_i hcd
    cases hcd
  split
  · rename_i c hcd
    exact absurd hcd (hnc c)
  refine wpAny_bind (wpAny_alloc' ?_)
  refine wpAny_bind (wpAny_update' hx₁ ?_)
  refine wpAny_pure ?_
  have hfresh : ((h.push { cls := .type "dict", data := .dict #[] }).update x fun o => { o with dict := some h.objs.size }).get? h.objs.size = some { cls := .type "dict", data := .dict #[] } :=
    (Heap.get?_update_other _ _ hxs).trans (Heap.get?_push_at rfl rfl)
  have hself : ((h.push { cls := .type "dict", data := .dict #[] }).update x fun o => { o with dict := some h.objs.size }).get? x = some { o with dict := some h.objs.size } := by
    refine Heap.get?_update_self _ hx₁ ?_
    have hfr := (Heap.get?_some_iff.mp hx).2
    obtain ⟨oc, od, odt, osl⟩ := o
    cases odt <;> first | rfl | exact hfr
  have hnone : ((h.push { cls := .type "dict", data := .dict #[] }).update x fun o => { o with dict := some h.objs.size }).Ns h.objs.size (fun _ => none) :=
    ⟨_, #[], _, hfresh, rfl, fun e he => absurd he (by simp), fun _ => rfl⟩
  show wpAny _ _ (storeInDict h.objs.size (.str name tk) name v) _ _ _
  unfold storeInDict newKeyGuard
  refine wpAny_bind (wpAny_pure (wpAny_bind (wpAny_nsSet1 (Heap.Ns1.of_empty hnone) fun h' hn' hs => ?_)))
  obtain ⟨oD, esD, epD, hoD, hdD, hcD⟩ := hn'.count (Within.cons name v Within.nil)
  refine wpAny_bind (wpAny_lookBehind hoD (by rw [hdD]; exact pastItsLine_dict (Nat.le_trans hcD (by rw [List.length_cons, List.length_nil, sizeLine_eq]; omega))) ?_)
  wp_walk
  exact hq h' _ ((hs.2 x hxs).trans hself) hn' fun b ob hbx hb => (hs.2 b (Nat.ne_of_lt (Heap.lt_size hb))).trans ((Heap.get?_update_other _ _ (Ne.symm hbx)).trans (Heap.get?_push_of_some _ hb))
theorem exc_first_call {sa owner : String} (SF : StoreFacts "Exception" excTail sa owner) {R : Result → Shared → Prop} {tk : Tok}
    (hC : h.get? C = some (excClassObj nm q C N bs excTail true sn sub ab col dd k0 k1 k2 k3 k5 newId)) (hn : h.Ns N mN) (hna : mN name = none)
    (hB : typeLookup (.type "Exception") name = pure none) (hx : h.get? x = some o) (hc : o.cls = .ref C) (hnc : ∀ c, o.data ≠ .cls c) (hdn : o.dict = none)
    (hR : ∀ h' tk', h'.get? x = some { o with dict := some h.objs.size } → h'.Ns1 h.objs.size (fun y => if y = name then some v else none) → (∀ b ob, b ≠ x → h.get? b = some ob → h'.get? b = some ob) → R (.ok (.ret .none)) ⟨h', g, d, tk', os⟩) :
    codeAny (model prog w) A (.call (.builtin sa) ⟨[.ref x, .str name tk, v], []⟩) R ⟨h, g, d, t, os⟩ :=
  codeAny_call_builtin SF.slot.plain SF.entry (wpAny_check_sa SF hC hx hc (exc_first_entry hC hn hna hB hx hc hnc hdn hR))
theorem exc_first_attr {sa owner : String} (SF : StoreFacts "Exception" excTail sa owner) {Q : Unit → Shared → Prop}
    (hC : h.get? C = some (excClassObj nm q C N bs excTail true sn sub ab col dd k0 k1 k2 k3 k5 newId)) (hn : h.Ns N mN) (hns : mN "__setattr__" = none) (hna : mN name = none)
    (hB : typeLookup (.type "Exception") name = pure none) (hx : h.get? x = some o) (hc : o.cls = .ref C) (hnc : ∀ c, o.data ≠ .cls c) (hdn : o.dict = none)
    (hq : ∀ h' tk', h'.get? x = some { o with dict := some h.objs.size } → h'.Ns1 h.objs.size (fun y => if y = name then some v else none) → (∀ b ob, b ≠ x → h.get? b = some ob → h'.get? b = some ob) → Q () ⟨h', g, d, tk', os⟩) :
    wpAny (model prog w) A (setAttr (.ref x) name v) Q E ⟨h, g, d, t, os⟩ := by
  have f3 := SF.slot.bind (.ref x)
  unfold setAttr callSpecial? specialOf
  repeat (any_goals (first | assumption | (with_reducible refine wpAny_loadPart_at hx ?_; rw [hc]) | (with_reducible refine wpAny_typeLookup_exc hC hn SF.mro SF.slot.lookup ?_; rw [hns]) | wp_step))
  refine exc_first_call SF hC hn hna hB hx hc hnc hdn fun h' tk' a1 a2 a3 => ?_
  repeat (any_goals (first | assumption | wp_step))
  exact hq h' tk' a1 a2 a3
/-- the base's __init__ on a made object: the arguments are laid anew -/
theorem exc_reinit {B initId : String} {bm : List Value} {hdct : Bool} {t0 : Addr} (F : ExcBaseFacts B newId initId bm) {Q : Value → Shared → Prop}
    (hC : h.get? C = some (excClassObj nm q C N bs bm hdct sn sub ab col dd k0 k1 k2 k3 k5 newId)) (hx : h.get? x = some { cls := .ref C, data := .fields #[.ref t0, .none, .none, .none, .bool false, .none] })
    (hq : ∀ h' t1, h'.get? x = some { cls := .ref C, data := .fields #[.ref t1, .none, .none, .none, .bool false, .none] } → (∀ b ob, b ≠ x → h.get? b = some ob → h'.get? b = some ob) → Q .none ⟨h', g, d, t, os⟩) :
    wpAny (model prog w) A (call (.builtin initId) [.ref x, v]) Q E ⟨h, g, d, t, os⟩ := by
  have hxs : x ≠ h.objs.size := Nat.ne_of_lt (Heap.lt_size hx)
  refine wpAny_call (codeAny_call_builtin F.init.plain F.initEntry (wpAny_check_init_sub F hC hx rfl ?_))
  wp_walk
  refine hq _ h.objs.size ?_ fun b ob hb e => ?_
  · rw [Heap.get?_update_self _ (Heap.get?_push_of_some _ hx) rfl]
    rfl
  · rw [Heap.get?_update_other _ _ (Ne.symm hb)]
    exact Heap.get?_push_of_some _ e
theorem exc_init_found : findCls [] (.type "Exception") (.type "type") (Str.ofString "__init__") = some (.val (.builtin "Exception.__init__")) := by kernel_rfl
theorem exc_typeOf : typeOf (.type "Exception") = pure (.type "type") := by kernel_rfl
theorem exc_stub : Manifest.isStub "Exception" = false := by decide +kernel
theorem exc_noKind : typeLookup (.type "Exception") (Str.ofString "kind") = pure none := by rw [typeLookup_type, builtinLookup_eq_fast]; kernel_rfl
theorem exc_noText : typeLookup (.type "Exception") (Str.ofString "text") = pure none := by rw [typeLookup_type, builtinLookup_eq_fast]; kernel_rfl
end
end Mine
end
-- CasObj
section
open PySem PySem.W PySem.Spec PySem.Calls PyProof.Rows
set_option maxRecDepth 100000
namespace Mine
theorem casfail_obj (w : World) : ∃ nm q bs sn sub ab col dd k0 k1 k2 k3 k5, (Mine.hd.heap_39 w.params).lookup 31 = some (excClassObj nm q 31 30 bs excTail true sn sub ab col dd k0 k1 k2 k3 k5 "Exception.__new__") :=
  ⟨_, _, _, _, _, _, _, _, _, _, _, _, _, rfl⟩
theorem casfail_ns {w : World} {h : Heap} (X : (Mine.hd.heap_39 w.params).In h) :
    ∃ mN, h.Ns 30 mN ∧ mN (Str.ofString "__init__") = some (.ref 28) ∧ mN (Str.ofString "kind") = none ∧ mN (Str.ofString "text") = none ∧ mN "__setattr__" = none ∧ mN "__getattribute__" = none ∧ mN "__getattr__" = none := by
  obtain ⟨es, ep, ho, hk, h1, h2, h3, h4, h5, h6⟩ : ∃ es ep, (Mine.hd.heap_39 w.params).lookup 30 = some ({ cls := .type "dict", data := .dict es ep } : Obj) ∧ StrKeys es ∧
      nsFind es (Str.ofString "__init__") = some (.ref 28) ∧ nsFind es (Str.ofString "kind") = none ∧ nsFind es (Str.ofString "text") = none ∧ nsFind es "__setattr__" = none ∧ nsFind es "__getattribute__" = none ∧ nsFind es "__getattr__" = none := by
    refine ⟨_, _, rfl, ?_, rfl, rfl, rfl, rfl, rfl, rfl⟩
    intro e he
    simp only [List.mem_toArray, List.mem_cons, List.not_mem_nil, or_false] at he
    rcases he with rfl | rfl | rfl | rfl | rfl | rfl <;> exact ⟨_, _, rfl⟩
  exact ⟨nsFind es, ⟨_, es, ep, X _ _ ho, rfl, hk, fun _ => rfl⟩, h1, h2, h3, h4, h5, h6⟩
theorem casfail_fn (w : World) : ∃ o, (Mine.hd.heap_39 w.params).lookup 28 = some o ∧ o.cls = .type "function" := ⟨_, rfl, rfl⟩
end Mine
end
-- the rules that all walks share
section
open PySem PySem.W PySem.Spec PySem.Calls PyProof.Rows
set_option maxRecDepth 100000
namespace Mine
local macro_rules | `(tactic| walk_at "LeaveP") => `(tactic| (k_dflt (refine' leaveP_ ?k1 ?_; (case k1 => k_asm); k_whole); intro kP; (try dsimp only)))
local macro_rules | `(tactic| walk_at "p_lat") => `(tactic| first | exact lat_news (by k_asm) (by k_mem) (by first | assumption | exact IntsAre.nil | exact IntsAre.cons _ _ IntsAre.nil) | exact lat_base (by k_asm) (by assumption) (by assumption))
local macro_rules | `(tactic| walk_at "p_args") => `(tactic| ((try dsimp only); (repeat' (refine And.intro ?_ ?_)); all_goals (walk_at "p_lat")))
local macro_rules | `(tactic| walk_at "p_pre") => `(tactic| first | assumption | omega | ((rename ∀ (i : Nat), List.getD _ i 0 < _ ∧ _ => hNum9); exact hNum9 _) | ((try simp only [List.length_map, rangeKs_length, List.length_cons, List.length_nil]); (try (repeat' split)) <;> omega) | exact Nat.le_trans (zscale_length _ _) (by omega) | exact Nat.le_trans (zraise_length _ _) (by (try simp only [List.length_cons, List.length_nil]); omega) | exact Nat.le_trans (zraise_length _ _) (Nat.le_trans (Nat.add_le_add_left (zscale_length _ _) _) (by omega)))
local macro_rules | `(tactic| walk_at "p_use") => `(tactic| ((case kF => k_asm); (case kB => k_asm); (case kX => k_asm); (case kN => k_asm); (case kT => k_asm); (case kk => first | exact rfl | assumption); (case ka => walk_at "p_args"); (case kd => ktr_room); (case ku => ktr_units); (try (case h1 => walk_at "p_pre")); (try (case h2 => walk_at "p_pre")); (try (case h3 => walk_at "p_pre")); (try (case h4 => walk_at "p_pre")); k_whole))
local macro_rules | `(tactic| walk_at "p_useL") => `(tactic| (walk_at "p_use"; intro r' us' n' h' tk' F' N' l' i'; (try simp only [LCg.Off1, and_true] at l'); (try k_sweep); (try dsimp only); (try k_fold)))
local macro_rules | `(tactic| walk_at "p_useI") => `(tactic| (walk_at "p_use"; intro t' h' tk' F' N'; (try k_sweep); (try dsimp only); (try k_fold)))
local macro_rules | `(tactic| walk_at "p_useN") => `(tactic| (walk_at "p_use"; intro h' tk' F' N'; (try k_sweep); (try dsimp only); (try k_fold)))
local macro_rules | `(tactic| walk_at "call builtin:len") => `(tactic| (k_here; (with_reducible show wpAny _ _ (call (Value.builtin "len") [Value.ref _]) _ _ _); k_dflt (refine' kst_len ?k1 ?k2 ?k3 ?k4 ?_; (case k1 => k_asm); (case k2 => k_mem); (case k3 => exact IntsAre.length (by assumption)); (case k4 => omega)); k_whole))
local macro_rules | `(tactic| walk_at "LeaveB") => `(tactic| (k_dflt (refine' leaveB_ ?k1 ?k2 ?k3 ?_; (case k1 => k_asm); (case k2 => k_asm); (case k3 => k_mem); k_whole); intro kP; (try dsimp only)))
local macro_rules | `(tactic| walk_at "p_useB") => `(tactic| ((case kF => k_asm); (case kB => k_asm); (case kX => k_asm); (case kN => k_asm); (case kT => k_asm); (case kk => first | exact rfl | assumption); (case kU => k_updF); (case ka => walk_at "p_args"); (case kd => ktr_room); (case ku => ktr_units); (try (case h1 => walk_at "p_pre")); (try (case h2 => walk_at "p_pre")); (try (case h3 => walk_at "p_pre")); (try (case h4 => walk_at "p_pre")); (try (case h5 => walk_at "p_pre")); (try (case h6 => walk_at "p_pre")); (try (case h7 => walk_at "p_pre")); (try (case h8 => walk_at "p_pre")); k_whole; intro v' ob' h' tk' F' N' kN' o'; (try k_sweep)))
local macro_rules | `(tactic| walk_at "execs cons") => `(tactic| (k_here; (with_reducible refine gen_tok ?_); intro tk))
local macro_rules | `(tactic| walk_at "execs nil") => `(tactic| (k_here; (with_reducible refine gen_tok ?_); intro tk))
local macro_rules | `(tactic| walk_at "p_pj") => `(tactic| with_reducible first | assumption | exact (And.left (by assumption)) | exact (And.left (And.right (by assumption))) | exact (And.right (by assumption)) | exact (And.left (And.right (And.right (by assumption)))) | exact (And.right (And.right (by assumption))) | exact (And.left (And.right (And.right (And.right (by assumption))))) | exact (And.right (And.right (And.right (by assumption)))) | exact (And.left (And.right (And.right (And.right (And.right (by assumption)))))) | exact (And.right (And.right (And.right (And.right (by assumption))))) | exact (And.left (And.right (And.right (And.right (And.right (And.right (by assumption))))))) | exact (And.right (And.right (And.right (And.right (And.right (by assumption)))))) | exact (And.left (And.right (And.right (And.right (And.right (And.right (And.right (by assumption)))))))) | exact (And.right (And.right (And.right (And.right (And.right (And.right (by assumption))))))) | exact (And.left (And.right (And.right (And.right (And.right (And.right (And.right (And.right (by assumption))))))))) | exact (And.right (And.right (And.right (And.right (And.right (And.right (And.right (by assumption)))))))) | exact (And.left (And.left (by assumption))) | exact (And.right (And.left (by assumption))) | exact (And.left (And.right (And.left (by assumption)))) | exact (And.right (And.right (And.left (by assumption)))) | exact (And.left (And.left (And.right (by assumption)))) | exact (And.right (And.left (And.right (by assumption)))) | exact (And.left (And.right (And.left (And.right (by assumption))))) | exact (And.right (And.right (And.left (And.right (by assumption))))) | exact (And.left (And.left (And.right (And.right (by assumption))))) | exact (And.right (And.left (And.right (And.right (by assumption))))) | exact (And.left (And.right (And.left (And.right (And.right (by assumption)))))) | exact (And.right (And.right (And.left (And.right (And.right (by assumption)))))) | exact (And.left (And.left (And.right (And.right (And.right (by assumption)))))) | exact (And.right (And.left (And.right (And.right (And.right (by assumption)))))) | exact (And.left (And.right (And.left (And.right (And.right (And.right (by assumption))))))) | exact (And.right (And.right (And.left (And.right (And.right (And.right (by assumption))))))) | exact (And.left (And.left (And.right (And.right (And.right (And.right (by assumption))))))) | exact (And.right (And.left (And.right (And.right (And.right (And.right (by assumption))))))) | exact (And.left (And.right (And.left (And.right (And.right (And.right (And.right (by assumption)))))))) | exact (And.right (And.right (And.left (And.right (And.right (And.right (And.right (by assumption)))))))) | exact (And.left (And.left (And.right (And.right (And.right (And.right (And.right (by assumption)))))))) | exact (And.right (And.left (And.right (And.right (And.right (And.right (And.right (by assumption)))))))) | exact (And.left (And.right (And.left (And.right (And.right (And.right (And.right (And.right (by assumption))))))))) | exact (And.right (And.right (And.left (And.right (And.right (And.right (And.right (And.right (by assumption))))))))) | exact (And.left (And.left (And.right (And.right (And.right (And.right (And.right (And.right (by assumption))))))))) | exact (And.right (And.left (And.right (And.right (And.right (And.right (And.right (And.right (by assumption))))))))) | exact (And.left (And.right (And.left (And.right (And.right (And.right (And.right (And.right (And.right (by assumption)))))))))) | exact (And.right (And.right (And.left (And.right (And.right (And.right (And.right (And.right (And.right (by assumption)))))))))) | exact (And.left (And.left (And.right (And.right (And.right (And.right (And.right (And.right (And.right (by assumption)))))))))) | exact (And.right (And.left (And.right (And.right (And.right (And.right (And.right (And.right (And.right (by assumption)))))))))) | exact (And.left (And.right (And.left (And.right (And.right (And.right (And.right (And.right (And.right (And.right (by assumption))))))))))) | exact (And.right (And.right (And.left (And.right (And.right (And.right (And.right (And.right (And.right (And.right (by assumption))))))))))))
local macro_rules | `(tactic| k_ne) => `(tactic| (refine neN ?_; (try dsimp only); (fail_if_success (with_reducible show (?x9 : Nat) ≠ ?x9)); first | (with_reducible refine Nat.ne_of_lt ?_; walk_at "p_pj") | (with_reducible refine Nat.ne_of_gt ?_; walk_at "p_pj") | walk_at "p_pj" | (with_reducible refine Ne.symm ?_; walk_at "p_pj")))
-- ztrim
section
open PySem PySem.W PySem.Spec PySem.Calls PyProof.Rows
set_option maxRecDepth 100000
local macro_rules | `(tactic| walk_at "p_none0") => `(tactic| fail)
set_option maxHeartbeats 8000000 in
theorem ztrim_ok (w : World) (mean : ExcName → Option Value) (mg mb : Str → Option Value) (l : Addr) (ns : List Int) (hn : ns.length ≤ 1000) :
    Spec w mean mg mb 41 1 [.ref l] (fun h => LAt h l ns) (NewL (trim ns)) := by
  unfold Spec
  k_fill
  w_on
  w_strict (
    intro dp un gd cn cs a ccd cl outer A₀ base h₀ L m s Q E B F X T hk hd hu ha hret
    obtain ⟨vs, hl, hi⟩ := ha
    refine wpAny_call ?_
    k_dflt (refine' code_pure (binds := [(Str.ofString "row", .ref l)]) ?k1 ?k2 ?k3 ?k5 ?kA ?kF ?kK ?k6 ?k7 ?k8 ?k9 ?kB ?_ ?c2 ?c3 ?c4 ?c5; (((case kA => exact rfl); (case kF => exact rfl); (case kK => assumption); (case k1 => k_asm); (case k2 => k_asm); (case k3 => k_asm); (case k5 => k_asm); (case k6 => k_is); (case k7 => k_is); (case k8 => ktr_room); (case k9 => exact BindsTo.of_eq rfl); (case c5 => decide); (case kB => exact locs rfl); (case c2 => exact rfl); (case c3 => exact rfl); (case c4 => exact rfl); k_whole; intro L' h' F' N' B' X' T'; (try dsimp only); (try k_fold))))
    k_steps)
  (rename Kept _ _ => kP)
  (rename News _ _ _ _ => N9)
  (rename IntsAre _ _ => hiu)
  exact hret _ _ _ kP (newL_of N9 (by k_mem) hiu (ztrim_end _ _ (by assumption) (by assumption) (by assumption) (by assumption)))
end
-- zlead
section
open PySem PySem.W PySem.Spec PySem.Calls PyProof.Rows
set_option maxRecDepth 100000
set_option maxHeartbeats 8000000 in
theorem zlead_ok (w : World) (mean : ExcName → Option Value) (mg mb : Str → Option Value) (l : Addr) (ns : List Int) (hn : ns.length ≤ 1000) :
    Spec w mean mg mb 48 1 [.ref l] (fun h => LAt h l ns) (IsI (ns.getLastD 0)) := by
  unfold Spec
  k_fill
  w_on
  w_strict (
    intro dp un gd cn cs a ccd cl outer A₀ base h₀ L m s Q E B F X T hk hd hu ha hret
    obtain ⟨vs, hl, hi⟩ := ha
    refine wpAny_call ?_
    k_dflt (refine' code_pure (binds := [(Str.ofString "p", .ref l)]) ?k1 ?k2 ?k3 ?k5 ?kA ?kF ?kK ?k6 ?k7 ?k8 ?k9 ?kB ?_ ?c2 ?c3 ?c4 ?c5; (((case kA => exact rfl); (case kF => exact rfl); (case kK => assumption); (case k1 => k_asm); (case k2 => k_asm); (case k3 => k_asm); (case k5 => k_asm); (case k6 => k_is); (case k7 => k_is); (case k8 => ktr_room); (case k9 => exact BindsTo.of_eq rfl); (case c5 => decide); (case kB => exact locs rfl); (case c2 => exact rfl); (case c3 => exact rfl); (case c4 => exact rfl); k_whole; intro L' h' F' N' B' X' T'; (try dsimp only); (try k_fold))))
    k_steps)
  all_goals (rename Kept _ _ => kP)
  · have e : ns.getD (-1 + (ns.length : Int)).toNat 0 = ns.getLastD 0 := getD_last ns (by omega)
    exact hret _ _ _ kP ⟨_, by rw [e]⟩
  · have e : ns = [] := List.length_eq_zero_iff.mp (by omega)
    exact hret _ _ _ kP ⟨_, by rw [e]; rfl⟩
end
-- zneg
section
open PySem PySem.W PySem.Spec PySem.Calls PyProof.Rows
set_option maxRecDepth 100000
local macro_rules | `(tactic| walk_at "p_none0") => `(tactic| fail)
set_option maxHeartbeats 8000000 in
theorem zneg_ok (w : World) (mean : ExcName → Option Value) (mg mb : Str → Option Value) (l : Addr) (ns : List Int) (hn : ns.length ≤ 1000) :
    Spec w mean mg mb 58 1 [.ref l] (fun h => LAt h l ns) (NewL (zneg ns)) := by
  unfold Spec
  k_fill
  w_on
  w_strict (
    intro dp un gd cn cs a ccd cl outer A₀ base h₀ L m s Q E B F X T hk hd hu ha hret
    obtain ⟨vs, hl, hi⟩ := ha
    refine wpAny_call ?_
    k_dflt (refine' code_pure (binds := [(Str.ofString "p", .ref l)]) ?k1 ?k2 ?k3 ?k5 ?kA ?kF ?kK ?k6 ?k7 ?k8 ?k9 ?kB ?_ ?c2 ?c3 ?c4 ?c5; (((case kA => exact rfl); (case kF => exact rfl); (case kK => assumption); (case k1 => k_asm); (case k2 => k_asm); (case k3 => k_asm); (case k5 => k_asm); (case k6 => k_is); (case k7 => k_is); (case k8 => ktr_room); (case k9 => exact BindsTo.of_eq rfl); (case c5 => decide); (case kB => exact locs rfl); (case c2 => exact rfl); (case c3 => exact rfl); (case c4 => exact rfl); k_whole; intro L' h' F' N' B' X' T'; (try dsimp only); (try k_fold))))
    k_steps)
  (rename Kept _ _ => kP)
  (rename CarriedAll _ _ => hc)
  exact hret _ _ _ kP (newL_ofC (out := (ns.filter fun _ => true).map fun a => -a) (by assumption) (by assumption) (by rw [List.map_map]; exact hc) (by unfold zneg; rw [List.filter_eq_self.mpr (fun _ _ => rfl)]))
end
-- zscale
section
open PySem PySem.W PySem.Spec PySem.Calls PyProof.Rows
set_option maxRecDepth 100000
set_option maxHeartbeats 8000000 in
theorem zscale_ok (w : World) (mean : ExcName → Option Value) (mg mb : Str → Option Value) (l : Addr) (ns : List Int) (x : Int) (tx : Tok) (hn : ns.length ≤ 1000) (hx : x < 2 ^ 62 ∧ -2 ^ 62 < x) :
    Spec w mean mg mb 70 1 [.ref l, .int x tx] (fun h => LAt h l ns) (NewL (zscale ns x)) := by
  unfold Spec
  k_fill
  w_on
  w_strict (
    intro dp un gd cn cs a ccd cl outer A₀ base h₀ L m s Q E B F X T hk hd hu ha hret
    obtain ⟨vs, hl, hi⟩ := ha
    refine wpAny_call ?_
    k_dflt (refine' code_pureC (binds := [(Str.ofString "p", .ref l), (Str.ofString "k", .int x tx)]) ?k1 ?k2 ?k3 ?k5 ?kA ?kF ?kK ?k6 ?k7 ?k8 ?k9 ?kB ?kD ?_ ?c2 ?c3 ?c4; (((case kA => exact rfl); (case kF => exact rfl); (case kK => assumption); (case k1 => k_asm); (case k2 => k_asm); (case k3 => k_asm); (case k5 => k_asm); (case k6 => k_is); (case k7 => k_is); (case k8 => ktr_room); (case k9 => exact BindsTo.of_eq rfl); (case kB => exact rfl); (case kD => decide +kernel); (case c2 => exact rfl); (case c3 => exact rfl); (case c4 => exact rfl); k_whole; intro L' h' tk' cells' F' N' Y' B' X' T'; k_cells Y'; (try simp only [List.cons_append, List.nil_append] at N'); (try dsimp only); (try k_fold))))
    k_steps)
  all_goals (rename Kept _ _ => kP)
  all_goals (rename News _ _ _ _ => N9)
  · exact hret _ _ _ kP (newL_of N9 (by k_mem) (by assumption) (by simp [zscale, *]))
  · exact hret _ _ _ kP (newL_of N9 (by k_mem) .nil (by simp [zscale, *]))
end
-- zraise
section
open PySem PySem.W PySem.Spec PySem.Calls PyProof.Rows
set_option maxRecDepth 100000
local macro_rules | `(tactic| walk_at "p_none0") => `(tactic| fail)
set_option maxHeartbeats 8000000 in
theorem zraise_ok (w : World) (mean : ExcName → Option Value) (mg mb : Str → Option Value) (l : Addr) (ns : List Int) (x : Int) (tx : Tok) (hn : ns.length ≤ 1000) (hx : 0 ≤ x ∧ x ≤ 1000) :
    Spec w mean mg mb 77 1 [.ref l, .int x tx] (fun h => LAt h l ns) (NewL (zraise ns x.toNat)) := by
  unfold Spec
  k_fill
  w_on
  w_strict (
    intro dp un gd cn cs a ccd cl outer A₀ base h₀ L m s Q E B F X T hk hd hu ha hret
    obtain ⟨vs, hl, hi⟩ := ha
    refine wpAny_call ?_
    k_dflt (refine' code_pure (binds := [(Str.ofString "p", .ref l), (Str.ofString "many", .int x tx)]) ?k1 ?k2 ?k3 ?k5 ?kA ?kF ?kK ?k6 ?k7 ?k8 ?k9 ?kB ?_ ?c2 ?c3 ?c4 ?c5; (((case kA => exact rfl); (case kF => exact rfl); (case kK => assumption); (case k1 => k_asm); (case k2 => k_asm); (case k3 => k_asm); (case k5 => k_asm); (case k6 => k_is); (case k7 => k_is); (case k8 => ktr_room); (case k9 => exact BindsTo.of_eq rfl); (case c5 => decide); (case kB => exact locs rfl); (case c2 => exact rfl); (case c3 => exact rfl); (case c4 => exact rfl); k_whole; intro L' h' F' N' B' X' T'; (try dsimp only); (try k_fold))))
    k_steps)
  all_goals (rename Kept _ _ => kP)
  all_goals (rename News _ _ _ _ => N9)
  · exact hret _ _ _ kP (newL_of N9 (by k_mem) (by assumption) (zraise_pos ns x (by omega) hx.1))
  · exact hret _ _ _ kP (newL_of N9 (by k_mem) .nil (zraise_nil ns x.toNat (by omega)))
end
-- check
section
open PySem PySem.W PySem.Spec PySem.Calls PyProof.Rows
set_option maxRecDepth 100000
set_option maxHeartbeats 8000000 in
theorem check_ok (w : World) (mean : ExcName → Option Value) (mg mb : Str → Option Value) (l : Addr) (ns : List Int) (hn : ns.length ≤ 1000) (hne : 0 < ns.length) :
    Spec w mean mg mb 84 1 [.ref l] (fun h => LAt h l ns) IsNone := by
  unfold Spec
  k_fill
  w_on
  w_strict (
    intro dp un gd cn cs a ccd cl outer A₀ base h₀ L m s Q E B F X T hk hd hu ha hret
    obtain ⟨vs, hl, hi⟩ := ha
    refine wpAny_call ?_
    k_dflt (refine' code_pure (binds := [(Str.ofString "p", .ref l)]) ?k1 ?k2 ?k3 ?k5 ?kA ?kF ?kK ?k6 ?k7 ?k8 ?k9 ?kB ?_ ?c2 ?c3 ?c4 ?c5; (((case kA => exact rfl); (case kF => exact rfl); (case kK => assumption); (case k1 => k_asm); (case k2 => k_asm); (case k3 => k_asm); (case k5 => k_asm); (case k6 => k_is); (case k7 => k_is); (case k8 => ktr_room); (case k9 => exact BindsTo.of_eq rfl); (case c5 => decide); (case kB => exact locs rfl); (case c2 => exact rfl); (case c3 => exact rfl); (case c4 => exact rfl); k_whole; intro L' h' F' N' B' X' T'; (try dsimp only); (try k_fold))))
    k_steps)
  · exfalso; omega
  · (rename Kept _ _ => kP)
    exact hret _ _ _ kP rfl
end
-- zadd
section
open PySem PySem.W PySem.Spec PySem.Calls PyProof.Rows
set_option maxRecDepth 100000
local macro_rules | `(tactic| walk_at "call ref") => `(tactic| (k_here; k_dflt (refine' spec_useL (ztrim_ok _ _ _ _ _ _ ?h1) ?kB ?kF ?kX ?kN ?kT ?kk ?ka ?kd ?ku ?_; walk_at "p_useL")))
theorem zadd_list (ns ms : List Int) : List.map (fun k' : Int =>
      if k' < ↑ns.length ∧ k' < ↑ms.length then ns.getD k'.toNat 0 + ms.getD k'.toNat 0
      else if k' < ↑ns.length ∧ ¬k' < ↑ms.length then ns.getD k'.toNat 0 + 0 else 0 + ms.getD k'.toNat 0)
    (rangeKs 0 ((if (ms.length : Int) > (ns.length : Int) then (ms.length : Int) else (ns.length : Int)) - 0).toNat) = addL ns ms := by
  have e : ((if (ms.length : Int) > (ns.length : Int) then (ms.length : Int) else (ns.length : Int)) - 0).toNat = max ns.length ms.length := by
    split <;> omega
  rw [e]
  unfold addL rangeKs
  rw [List.map_map]
  refine List.map_congr_left fun i hi => ?_
  have hi' := List.mem_range.mp hi
  simp only [Function.comp_apply]
  have e1 : ((0 : Int) + (i : Int)).toNat = i := by omega
  rw [e1]
  have g1 : ∀ l : List Int, ¬ ((0 : Int) + (i : Int) < (l.length : Int)) → l.getD i 0 = 0 := fun l h => by
    rw [List.getD_eq_getElem?_getD, List.getElem?_eq_none (by omega)]; rfl
  by_cases h1 : (0 : Int) + (i : Int) < (ns.length : Int)
  · by_cases h2 : (0 : Int) + (i : Int) < (ms.length : Int)
    · simp only [h1, h2, and_self, if_true]
    · have := g1 ms h2
      simp only [h1, h2, and_false, not_false_eq_true, and_true, if_true, if_false, this]
  · have := g1 ns h1
    simp only [h1, false_and, if_false, this]

set_option maxHeartbeats 8000000 in
theorem zadd_ok (w : World) (mean : ExcName → Option Value) (mg mb : Str → Option Value) (l l2 : Addr) (ns ms : List Int) (hn : ns.length ≤ 1000) (hm : ms.length ≤ 1000) :
    Spec w mean mg mb 53 2 [.ref l, .ref l2] (fun h => LAt h l ns ∧ LAt h l2 ms) (NewL (zadd ns ms)) := by
  unfold Spec
  k_fill
  w_on
  w_strict (
    intro dp un gd cn cs a ccd cl outer A₀ base h₀ L m s Q E B F X T hk hd hu ha hret
    obtain ⟨⟨vs, hl, hi⟩, vs2, hl2, hi2⟩ := ha
    refine wpAny_call ?_
    k_dflt (refine' code_pureC (binds := [(Str.ofString "a", .ref l), (Str.ofString "b", .ref l2)]) ?k1 ?k2 ?k3 ?k5 ?kA ?kF ?kK ?k6 ?k7 ?k8 ?k9 ?kB ?kD ?_ ?c2 ?c3 ?c4; (((case kA => exact rfl); (case kF => exact rfl); (case kK => assumption); (case k1 => k_asm); (case k2 => k_asm); (case k3 => k_asm); (case k5 => k_asm); (case k6 => k_is); (case k7 => k_is); (case k8 => ktr_room); (case k9 => exact BindsTo.of_eq rfl); (case kB => exact rfl); (case kD => decide +kernel); (case c2 => exact rfl); (case c3 => exact rfl); (case c4 => exact rfl); k_whole; intro L' h' tk' cells' F' N' Y' B' X' T'; k_cells Y'; (try simp only [List.cons_append, List.nil_append] at N'); (try dsimp only); (try k_fold))))
    k_steps)
  (rename Kept _ _ => kP)
  (rename News _ _ _ _ => N9)
  (rename IntsAre _ _ => hiu)
  rw [zadd_list] at hiu
  exact hret _ _ _ kP (newL_of N9 (by k_mem) hiu rfl)
end
-- zsub
section
open PySem PySem.W PySem.Spec PySem.Calls PyProof.Rows
set_option maxRecDepth 100000
local macro_rules | `(tactic| walk_at "call ref") => `(tactic| (k_here; k_dflt (refine' spec_useL (zadd_ok _ _ _ _ _ _ _ _ ?h1 ?h2) ?kB ?kF ?kX ?kN ?kT ?kk ?ka ?kd ?ku ?_; walk_at "p_useL")))
local macro_rules | `(tactic| walk_at "call ref") => `(tactic| (k_here; k_dflt (refine' spec_useL (zneg_ok _ _ _ _ _ _ ?h1) ?kB ?kF ?kX ?kN ?kT ?kk ?ka ?kd ?ku ?_; walk_at "p_useL")))
set_option maxHeartbeats 8000000 in
theorem zsub_ok (w : World) (mean : ExcName → Option Value) (mg mb : Str → Option Value) (l l2 : Addr) (ns ms : List Int) (hn : ns.length ≤ 1000) (hm : ms.length ≤ 1000) :
    Spec w mean mg mb 65 3 [.ref l, .ref l2] (fun h => LAt h l ns ∧ LAt h l2 ms) (NewL (zsub ns ms)) := by
  have hm' : (zneg ms).length ≤ 1000 := by rw [zneg_length]; exact hm
  unfold Spec
  k_fill
  w_on
  w_strict (
    intro dp un gd cn cs a ccd cl outer A₀ base h₀ L m s Q E B F X T hk hd hu ha hret
    obtain ⟨⟨vs, hl, hi⟩, vs2, hl2, hi2⟩ := ha
    refine wpAny_call ?_
    k_dflt (refine' code_pure (binds := [(Str.ofString "a", .ref l), (Str.ofString "b", .ref l2)]) ?k1 ?k2 ?k3 ?k5 ?kA ?kF ?kK ?k6 ?k7 ?k8 ?k9 ?kB ?_ ?c2 ?c3 ?c4 ?c5; (((case kA => exact rfl); (case kF => exact rfl); (case kK => assumption); (case k1 => k_asm); (case k2 => k_asm); (case k3 => k_asm); (case k5 => k_asm); (case k6 => k_is); (case k7 => k_is); (case k8 => ktr_room); (case k9 => exact BindsTo.of_eq rfl); (case c5 => decide); (case kB => exact locs rfl); (case c2 => exact rfl); (case c3 => exact rfl); (case c4 => exact rfl); k_whole; intro L' h' F' N' B' X' T'; (try dsimp only); (try k_fold))))
    k_steps)
  (rename Kept _ _ => kP)
  (rename News _ _ _ _ => N9)
  (rename IntsAre _ _ => hiu)
  exact hret _ _ _ kP (newL_of N9 (by k_mem) hiu rfl)
end
-- pseudo
section
open PySem PySem.W PySem.Spec PySem.Calls PyProof.Rows
set_option maxRecDepth 100000
local macro_rules | `(tactic| walk_at "call ref") => `(tactic| (k_here; k_dflt (refine' spec_useI (zlead_ok _ _ _ _ _ _ ?h1) ?kB ?kF ?kX ?kN ?kT ?kk ?ka ?kd ?ku ?_; walk_at "p_useI")))
local macro_rules | `(tactic| walk_at "call ref") => `(tactic| (k_here; k_dflt (refine' spec_useL (zsub_ok _ _ _ _ _ _ _ _ ?h1 ?h2) ?kB ?kF ?kX ?kN ?kT ?kk ?ka ?kd ?ku ?_; walk_at "p_useL")))
local macro_rules | `(tactic| walk_at "call ref") => `(tactic| (k_here; k_dflt (refine' spec_useL (zscale_ok _ _ _ _ _ _ _ _ ?h1 ?h2) ?kB ?kF ?kX ?kN ?kT ?kk ?ka ?kd ?ku ?_; walk_at "p_useL")))
local macro_rules | `(tactic| walk_at "call ref") => `(tactic| (k_here; k_dflt (refine' spec_useL (zraise_ok _ _ _ _ _ _ _ _ ?h1 ?h2) ?kB ?kF ?kX ?kN ?kT ?kk ?ka ?kd ?ku ?_; walk_at "p_useL")))
local macro_rules | `(tactic| walk_at "call ref") => `(tactic| (k_here; k_dflt (refine' spec_useN (check_ok _ _ _ _ _ _ ?h1 ?h2) ?kB ?kF ?kX ?kN ?kT ?kk ?ka ?kd ?ku ?_; walk_at "p_useN")))
structure PSt where
  r : Addr
  rv : List Value
  rn : Nat
  rs : List Int
  f : Addr
  fv : List Value
  fn : Nat
  fs : List Int
  lf : Int
  lt : Tok
abbrev PSt.led (c : PSt) : List (Addr × Obj) := [(c.r, listOf c.rv.toArray c.rn), (c.f, listOf c.fv.toArray c.fn)]
abbrev PSt.ps (c : PSt) : List (Str × Value) := [(Str.ofString "rest", .ref c.r), (Str.ofString "found", .ref c.f), (Str.ofString "left", .int c.lf c.lt)]
abbrev PSt.facts (c : PSt) : Prop := c.r ≠ c.f ∧ IntsAre c.rv c.rs ∧ IntsAre c.fv c.fs
abbrev PSt.inv (a b : List Int) (c : PSt) : Prop := PsInv a b c.rs c.fs c.lf
abbrev PSt.meas (c : PSt) : Nat := c.lf.toNat
abbrev tupOf (vs : List Value) : Obj := { cls := .type "tuple", data := .seq vs.toArray }
def PsOut (a b : List Int) (h h' : Heap) (v : Value) : Prop :=
  ∃ d t q qv qn r rv rn qs rs, v = .ref d ∧ h.get? d = none ∧ h'.get? d = some (tupOf [.ref q, .ref r, .int (psMany a b) t]) ∧
    h.get? q = none ∧ h'.get? q = some (listOf (List.toArray qv) qn) ∧ IntsAre qv qs ∧
    h.get? r = none ∧ h'.get? r = some (listOf (List.toArray rv) rn) ∧ IntsAre rv rs ∧ PsPost a b qs rs
theorem psOut_of {g h : Heap} {L d q r : Addr} {k : Int} {t : Tok} {qv rv : List Value} {qn rn : Nat} {qs rs a b : List Int} {news : List (Addr × Obj)} (N : News g L h news)
    (md : (d, tupOf [.ref q, .ref r, .int k t]) ∈ news) (mq : (q, listOf (List.toArray qv) qn) ∈ news) (mr : (r, listOf (List.toArray rv) rn) ∈ news) (iq : IntsAre qv qs) (ir : IntsAre rv rs) (ek : k = psMany a b) (P : PsPost a b qs rs) :
    PsOut a b g h (.ref d) := by
  subst ek
  exact ⟨d, t, q, qv, qn, r, rv, rn, qs, rs, rfl, (N _ md).2.2, (N _ md).1, (N _ mq).2.2, (N _ mq).1, iq, (N _ mr).2.2, (N _ mr).1, ir, P⟩
theorem psMany_ite (ns ms : List Int) : (if (ns.length : Int) - ms.length + 1 > 0 then (ns.length : Int) - ms.length + 1 else 0) = psMany ns ms := by unfold psMany; split <;> omega
set_option maxHeartbeats 8000000 in
theorem pseudo_ok (w : World) (mean : ExcName → Option Value) (mg mb : Str → Option Value) (l l2 : Addr) (ns ms : List Int) (hin : InOk ns ms) :
    Spec w mean mg mb 105 5 [.ref l, .ref l2] (fun h => LAt h l ns ∧ LAt h l2 ms) (PsOut ns ms) := by
  have hn : ns.length ≤ 1000 := by have := hin.la; omega
  have hm : ms.length ≤ 1000 := by have := hin.lb; omega
  have hm0 : 0 < ms.length := hin.lb0
  unfold Spec
  k_fill
  w_on
  w_strict (
    intro dp un gd cn cs a ccd cl outer A₀ base h₀ L m s Q E B F X T hk hd hu ha hret
    obtain ⟨⟨vs, hl, hi⟩, vs2, hl2, hi2⟩ := ha
    refine wpAny_call ?_
    k_dflt (refine' code_pure (binds := [(Str.ofString "a", .ref l), (Str.ofString "b", .ref l2)]) ?k1 ?k2 ?k3 ?k5 ?kA ?kF ?kK ?k6 ?k7 ?k8 ?k9 ?kB ?_ ?c2 ?c3 ?c4 ?c5; (((case kA => exact rfl); (case kF => exact rfl); (case kK => assumption); (case k1 => k_asm); (case k2 => k_asm); (case k3 => k_asm); (case k5 => k_asm); (case k6 => k_is); (case k7 => k_is); (case k8 => ktr_room); (case k9 => exact BindsTo.of_eq rfl); (case c5 => decide); (case kB => exact locs rfl); (case c2 => exact rfl); (case c3 => exact rfl); (case c4 => exact rfl); k_whole; intro L' h' F' N' B' X' T'; (try dsimp only); (try k_fold))))
    (repeat' (first | ((fail_if_success (with_reducible show wpAny _ _ (exec (Stmt.While _ _ _ _) _) _ _ _)); first | (k_unfold; (try dsimp only)) | (k_end; wrow_close) | walk1 | (dsimp only; walk1) | (leave1; walk_say "STEP leave1"; try dsimp only)) | fail "no step"))
    (rename Fr _ _ _ _ => lF')
    (rename News _ _ _ _ => lN')
    (with_unfolding_all refine' ksw_while (σ := PSt) PSt.led PSt.ps PSt.facts [Str.ofString "number", Str.ofString "power"] (PSt.inv ns ms) PSt.meas ⟨_, vs, _, ns, _, [], _, [], (if (ns.length : Int) - ms.length + 1 > 0 then (ns.length : Int) - ms.length + 1 else 0), _⟩ lF' ?kn ?kf ?kk ?kp ?kt)
    (case kk => k_dflt (exact List.forall_mem_cons.mpr ⟨by with_unfolding_all rfl, List.forall_mem_cons.mpr ⟨by with_unfolding_all rfl, List.forall_mem_cons.mpr ⟨by with_unfolding_all rfl, List.forall_mem_nil _⟩⟩⟩))
    (case kn => k_dflt (exact kst_newsOf lN' (List.forall_mem_cons.mpr ⟨by k_mem, List.forall_mem_cons.mpr ⟨by k_mem, List.forall_mem_nil _⟩⟩)))
    (case kf => exact ⟨by k_ne, hi, IntsAre.nil⟩)
    (case kp => exact psinv_start hin)
    clear lF' lN'
    intro c' u' h' tk' hf' hp' F' N'
    obtain ⟨cr', crv', crn', crs', cf', cfv', cfn', cfs', clf', clt'⟩ := c'
    dsimp only [PSt.led, PSt.ps, PSt.facts, PSt.inv, kstB] at hf' hp' F' N'
    obtain ⟨hf1', hf2', hf3'⟩ := hf'
    have hrl : crs'.length ≤ 1000 := by have := hp'.rlen; omega
    have hfl : cfs'.length ≤ 1000 := psinv_flen hp'
    have hld : ms.getLastD 0 < 2 ^ 62 ∧ -2 ^ 62 < ms.getLastD 0 := psinv_lead hp'
    have hnum : ∀ i : Nat, crs'.getD i 0 < 2 ^ 62 ∧ -2 ^ 62 < crs'.getD i 0 := psinv_num hp'
    have hl0 : 0 ≤ clf' := hp'.h0
    have hl1 : clf' ≤ 1000000 := psinv_lf hp'
    have hab : (ms.getLastD 0).natAbs < 2 ^ 64 := psinv_abs hp'
    have hpow : (ms.getLastD 0) ^ clf'.toNat < 2 ^ 62 ∧ -2 ^ 62 < (ms.getLastD 0) ^ clf'.toNat := psinv_pow hp'
    (try k_unmd)
    k_fold
    (repeat' (first | ((fail_if_success (with_reducible show wpAny _ _ (exec (Stmt.While _ _ _ _) _) _ _ _)); first | (k_unfold; (try dsimp only)) | (k_end; wrow_close) | walk1 | (dsimp only; walk1) | (leave1; walk_say "STEP leave1"; try dsimp only)) | fail "no step"))
    · (try dsimp only [PSt.led, PSt.ps, PSt.facts, PSt.inv])
      (rename Fr _ _ _ _ => lF')
      (rename News _ _ _ _ => lN')
      have hst := psinv_step hp' (by assumption)
      refine' ksw_end (σ := PSt) ⟨_, _, _, (zsub (zscale crs' (ms.getLastD 0)) (zraise (zscale ms (crs'.getD (-1 + (crs'.length : Int)).toNat 0)) ((crs'.length : Int) - ms.length).toNat)), _, _, _, (zsub (zscale cfs' (ms.getLastD 0)) (zraise [-crs'.getD (-1 + (crs'.length : Int)).toNat 0] ((crs'.length : Int) - ms.length).toNat)), clf' - 1, _⟩ lF' lN' ?eM ?ef ?ek ?er hst.1 ?em
      (case ek => k_dflt (exact List.forall_mem_cons.mpr ⟨by with_unfolding_all rfl, List.forall_mem_cons.mpr ⟨by with_unfolding_all rfl, List.forall_mem_cons.mpr ⟨by with_unfolding_all rfl, List.forall_mem_nil _⟩⟩⟩))
      (case eM => k_dflt (exact List.forall_mem_cons.mpr ⟨by k_mem, List.forall_mem_cons.mpr ⟨by k_mem, List.forall_mem_nil _⟩⟩))
      (case ef => exact ⟨by k_ne, by assumption, by assumption⟩)
      (case er => dsimp only [PSt.ps]; ksw_same)
      (case em => have h9 := hst.2; dsimp only [PSt.meas]; omega)
    · (rename Kept _ _ => kP)
      (rename News _ _ _ _ => lN')
      exact hret _ _ _ kP (psOut_of lN' (by k_mem) (by k_mem) (by k_mem) (by assumption) (by assumption) (psMany_ite ns ms) (psinv_end hp' (by assumption))))
end
-- zexact
section
open PySem PySem.W PySem.Spec PySem.Calls PyProof.Rows
set_option maxRecDepth 100000
local macro_rules | `(tactic| walk_at "p_none0") => `(tactic| fail)
local macro_rules | `(tactic| walk_at "call ref") => `(tactic| (k_here; k_dflt (refine' spec_useL (ztrim_ok _ _ _ _ _ _ ?h1) ?kB ?kF ?kX ?kN ?kT ?kk ?ka ?kd ?ku ?_; walk_at "p_useL")))
local macro_rules | `(tactic| walk_at "call ref") => `(tactic| (k_here; k_dflt (refine' spec_useL (zsub_ok _ _ _ _ _ _ _ _ ?h1 ?h2) ?kB ?kF ?kX ?kN ?kT ?kk ?ka ?kd ?ku ?_; walk_at "p_useL")))
local macro_rules | `(tactic| walk_at "call ref") => `(tactic| (k_here; k_dflt (refine' spec_useL (zscale_ok _ _ _ _ _ _ _ _ ?h1 ?h2) ?kB ?kF ?kX ?kN ?kT ?kk ?ka ?kd ?ku ?_; walk_at "p_useL")))
local macro_rules | `(tactic| walk_at "call ref") => `(tactic| (k_here; k_dflt (refine' spec_useL (zraise_ok _ _ _ _ _ _ _ _ ?h1 ?h2) ?kB ?kF ?kX ?kN ?kT ?kk ?ka ?kd ?ku ?_; walk_at "p_useL")))
local macro_rules | `(tactic| walk_at "call ref") => `(tactic| (k_here; k_dflt (refine' spec_useN (check_ok _ _ _ _ _ _ ?h1 ?h2) ?kB ?kF ?kX ?kN ?kT ?kk ?ka ?kd ?ku ?_; walk_at "p_useN")))
structure ZSt where
  r : Addr
  rv : List Value
  rn : Nat
  rs : List Int
  f : Addr
  fv : List Value
  fn : Nat
  fs : List Int
abbrev ZSt.led (c : ZSt) : List (Addr × Obj) := [(c.r, listOf c.rv.toArray c.rn), (c.f, listOf c.fv.toArray c.fn)]
abbrev ZSt.ps (c : ZSt) : List (Str × Value) := [(Str.ofString "rest", .ref c.r), (Str.ofString "found", .ref c.f)]
abbrev ZSt.facts (c : ZSt) : Prop := c.r ≠ c.f ∧ IntsAre c.rv c.rs ∧ IntsAre c.fv c.fs
abbrev ZSt.inv (a b : List Int) (c : ZSt) : Prop := ZxInv a b c.rs c.fs
abbrev ZSt.meas (c : ZSt) : Nat := c.rs.length
def ZxOut (a b : List Int) (h h' : Heap) (v : Value) : Prop := match zx a b with
  | none => v = .none
  | some q => NewL q h h' v
theorem zxOut_none {a b : List Int} {g h : Heap} (e : zx a b = none) : ZxOut a b g h .none := by unfold ZxOut; rw [e]
theorem zxOut_some {a b q : List Int} {g h : Heap} {v : Value} (e : zx a b = some q) (n : NewL q g h v) : ZxOut a b g h v := by unfold ZxOut; rw [e]; exact n
set_option maxHeartbeats 8000000 in
theorem zexact_ok (w : World) (mean : ExcName → Option Value) (mg mb : Str → Option Value) (l l2 : Addr) (ns ms : List Int) (hin : InOk ns ms) :
    Spec w mean mg mb 91 5 [.ref l, .ref l2] (fun h => LAt h l ns ∧ LAt h l2 ms) (ZxOut ns ms) := by
  have hn : ns.length ≤ 1000 := by have := hin.la; omega
  have hm : ms.length ≤ 1000 := by have := hin.lb; omega
  have hm0 : 0 < ms.length := hin.lb0
  unfold Spec
  k_fill
  w_on
  w_strict (
    intro dp un gd cn cs a ccd cl outer A₀ base h₀ L m s Q E B F X T hk hd hu ha hret
    obtain ⟨⟨vs, hl, hi⟩, vs2, hl2, hi2⟩ := ha
    refine wpAny_call ?_
    k_dflt (refine' code_pure (binds := [(Str.ofString "a", .ref l), (Str.ofString "b", .ref l2)]) ?k1 ?k2 ?k3 ?k5 ?kA ?kF ?kK ?k6 ?k7 ?k8 ?k9 ?kB ?_ ?c2 ?c3 ?c4 ?c5; (((case kA => exact rfl); (case kF => exact rfl); (case kK => assumption); (case k1 => k_asm); (case k2 => k_asm); (case k3 => k_asm); (case k5 => k_asm); (case k6 => k_is); (case k7 => k_is); (case k8 => ktr_room); (case k9 => exact BindsTo.of_eq rfl); (case c5 => decide); (case kB => exact locs rfl); (case c2 => exact rfl); (case c3 => exact rfl); (case c4 => exact rfl); k_whole; intro L' h' F' N' B' X' T'; (try dsimp only); (try k_fold))))
    (repeat' (first | ((fail_if_success (with_reducible show wpAny _ _ (exec (Stmt.While _ _ _ _) _) _ _ _)); first | (k_unfold; (try dsimp only)) | (k_end; wrow_close) | walk1 | (dsimp only; walk1) | (leave1; walk_say "STEP leave1"; try dsimp only)) | fail "no step"))
    (rename Fr _ _ _ _ => lF')
    (rename News _ _ _ _ => lN')
    (rename IntsAre _ _ => i0')
    (with_unfolding_all refine' ksw_while (σ := ZSt) ZSt.led ZSt.ps ZSt.facts [Str.ofString "number", Str.ofString "power"] (ZSt.inv ns ms) ZSt.meas ⟨_, vs, _, ns, _, _, _, (List.replicate (if (ns.length : Int) - ms.length + 1 > 0 then (ns.length : Int) - ms.length + 1 else 0).toNat [0]).flatten⟩ lF' ?kn ?kf ?kk ?kp ?kt)
    (case kk => k_dflt (exact List.forall_mem_cons.mpr ⟨by with_unfolding_all rfl, List.forall_mem_cons.mpr ⟨by with_unfolding_all rfl, List.forall_mem_nil _⟩⟩))
    (case kn => k_dflt (exact kst_newsOf lN' (List.forall_mem_cons.mpr ⟨by k_mem, List.forall_mem_cons.mpr ⟨by k_mem, List.forall_mem_nil _⟩⟩)))
    (case kf => exact ⟨by k_ne, hi, i0'⟩)
    (case kp => exact zxinv_start hin)
    clear lF' lN'
    intro c' u' h' tk' hf' hp' F' N'
    obtain ⟨cr', crv', crn', crs', cf', cfv', cfn', cfs'⟩ := c'
    dsimp only [ZSt.led, ZSt.ps, ZSt.facts, ZSt.inv, kstB] at hf' hp' F' N'
    obtain ⟨hf1', hf2', hf3'⟩ := hf'
    have hrl : crs'.length ≤ 1000 := by have := hp'.rlen; omega
    have hfl : cfs'.length ≤ 1000 := zxinv_flen hp'
    have hml : crs'.length + 1 - ms.length ≤ cfs'.length := hp'.ml
    have hld : 1 ≤ ms.getD (-1 + (ms.length : Int)).toNat 0 := zxinv_lead hp'
    have hld4 : ms.getD (-1 + (ms.length : Int)).toNat 0 ≤ 4 := zxinv_lead4 hp'
    have hld0 : ms.getD (-1 + (ms.length : Int)).toNat 0 ≠ 0 := by omega
    have hnum := zxinv_num hp'
    (try k_unmd)
    k_fold
    (repeat' (first | ((fail_if_success (with_reducible show wpAny _ _ (exec (Stmt.While _ _ _ _) _) _ _ _)); first | (k_unfold; (try dsimp only)) | (k_end; wrow_close) | walk1 | (dsimp only; walk1) | (leave1; walk_say "STEP leave1"; try dsimp only)) | fail "no step"))
    · (rename Kept _ _ => kP)
      exact hret _ _ _ kP (zxOut_none (zxinv_none hp' (by assumption) (by assumption)))
    · (rename Fr _ _ _ _ => lF')
      (rename News _ _ _ _ => lN')
      have hst := zxinv_step hp' (by assumption) (by assumption)
      refine' ksw_end (σ := ZSt) ⟨_, _, _, (zsub crs' (zraise (zscale ms (Int.fdiv (crs'.getD (-1 + (crs'.length : Int)).toNat 0) (ms.getD (-1 + (ms.length : Int)).toNat 0))) ((crs'.length : Int) - ms.length).toNat)), _, _, _, (cfs'.set ((crs'.length : Int) - ms.length).toNat (Int.fdiv (crs'.getD (-1 + (crs'.length : Int)).toNat 0) (ms.getD (-1 + (ms.length : Int)).toNat 0)))⟩ lF' lN' ?eM ?ef ?ek ?er hst.1 ?em
      (case ek => k_dflt (exact List.forall_mem_cons.mpr ⟨by with_unfolding_all rfl, List.forall_mem_cons.mpr ⟨by with_unfolding_all rfl, List.forall_mem_nil _⟩⟩))
      (case eM => k_dflt (exact List.forall_mem_cons.mpr ⟨by k_mem, List.forall_mem_cons.mpr ⟨by k_mem, List.forall_mem_nil _⟩⟩))
      (case ef => exact ⟨by k_ne, by assumption, by assumption⟩)
      (case er => dsimp only [ZSt.ps]; ksw_same)
      (case em => exact hst.2)
    · (rename Kept _ _ => kP)
      (rename News _ _ _ _ => lN')
      have he := zxinv_end hp' (by assumption)
      rw [if_pos (by omega)] at he
      exact hret _ _ _ kP (zxOut_some he (newL_of lN' (by k_mem) (by assumption) rfl))
    · (rename Kept _ _ => kP)
      have he := zxinv_end hp' (by assumption)
      rw [if_neg (by omega)] at he
      exact hret _ _ _ kP (zxOut_none he))
end
-- zdiv
section
open PySem PySem.W PySem.Spec PySem.Calls PyProof.Rows
set_option maxRecDepth 100000
theorem zexact_some (w : World) (mean : ExcName → Option Value) (mg mb : Str → Option Value) (l l2 : Addr) (ns ms q : List Int) (hin : InOk ns ms) (hz : zx ns ms = some q) :
    Spec w mean mg mb 91 5 [.ref l, .ref l2] (fun h => LAt h l ns ∧ LAt h l2 ms) (NewL q) := by
  have h := zexact_ok w mean mg mb l l2 ns ms hin
  have e : ZxOut ns ms = NewL q := by
    funext h h' v; unfold ZxOut; rw [hz]
  rw [e] at h
  exact h
theorem zexact_none (w : World) (mean : ExcName → Option Value) (mg mb : Str → Option Value) (l l2 : Addr) (ns ms : List Int) (hin : InOk ns ms) (hz : zx ns ms = none) :
    Spec w mean mg mb 91 5 [.ref l, .ref l2] (fun h => LAt h l ns ∧ LAt h l2 ms) IsNone := by
  have h := zexact_ok w mean mg mb l l2 ns ms hin
  have e : ZxOut ns ms = IsNone := by
    funext h h' v; unfold ZxOut; rw [hz]; rfl
  rw [e] at h
  exact h
local macro_rules | `(tactic| walk_at "call ref") => `(tactic| (k_here; k_dflt (refine' spec_useL (zexact_some _ _ _ _ _ _ _ _ _ ?h1 ?h2) ?kB ?kF ?kX ?kN ?kT ?kk ?ka ?kd ?ku ?_; walk_at "p_useL")))
local macro_rules | `(tactic| walk_at "call ref") => `(tactic| (k_here; k_dflt (refine' spec_useN (zexact_none _ _ _ _ _ _ _ _ ?h1 ?h2) ?kB ?kF ?kX ?kN ?kT ?kk ?ka ?kd ?ku ?_; walk_at "p_useN")))
set_option maxHeartbeats 8000000 in
theorem zdivides_ok (w : World) (mean : ExcName → Option Value) (mg mb : Str → Option Value) (l l2 : Addr) (ns ms : List Int) (hin : InOk ns ms) :
    Spec w mean mg mb 98 6 [.ref l2, .ref l] (fun h => LAt h l2 ms ∧ LAt h l ns) (IsB (zx ns ms).isSome) := by
  have hn : ns.length ≤ 1000 := by have := hin.la; omega
  have hm : ms.length ≤ 1000 := by have := hin.lb; omega
  have hm0 : 0 < ms.length := hin.lb0
  unfold Spec
  k_fill
  w_on
  w_strict (
    intro dp un gd cn cs a ccd cl outer A₀ base h₀ L m s Q E B F X T hk hd hu ha hret
    obtain ⟨⟨vs2, hl2, hi2⟩, vs, hl, hi⟩ := ha
    cases hz : zx ns ms
    all_goals (
      refine wpAny_call ?_
      k_dflt (refine' code_pure (binds := [(Str.ofString "b", .ref l2), (Str.ofString "a", .ref l)]) ?k1 ?k2 ?k3 ?k5 ?kA ?kF ?kK ?k6 ?k7 ?k8 ?k9 ?kB ?_ ?c2 ?c3 ?c4 ?c5; (((case kA => exact rfl); (case kF => exact rfl); (case kK => assumption); (case k1 => k_asm); (case k2 => k_asm); (case k3 => k_asm); (case k5 => k_asm); (case k6 => k_is); (case k7 => k_is); (case k8 => ktr_room); (case k9 => exact BindsTo.of_eq rfl); (case c5 => decide); (case kB => exact locs rfl); (case c2 => exact rfl); (case c3 => exact rfl); (case c4 => exact rfl); k_whole; intro L' h' F' N' B' X' T'; (try dsimp only); (try k_fold))))
      (repeat' (first | ((fail_if_success (with_reducible show wpAny _ _ (exec (Stmt.While _ _ _ _) _) _ _ _)); first | (k_unfold; (try dsimp only)) | (k_end; wrow_close) | walk1 | (dsimp only; walk1) | (leave1; walk_say "STEP leave1"; try dsimp only)) | fail "no step"))))
  all_goals (rename Kept _ _ => kP)
  all_goals exact hret _ _ _ kP (by unfold IsB; rw [hz]; rfl)
end
-- take
section
open PySem PySem.W PySem.Spec PySem.Calls PyProof.Rows
set_option maxRecDepth 100000
abbrev boxOf (sl : Addr) (i : Int) (ti : Tok) (z : Int) (tz : Tok) (n : Nat) : Obj := listOf (List.toArray [.ref sl, .int i ti, .int z tz]) n
def TakeOut (sl : Addr) (ss : List Int) (many : Int) (_h _h' : Heap) (ob : Obj) (v : Value) : Prop :=
  ∃ i ti z tz n x t, ob = boxOf sl i ti z tz n ∧ 0 ≤ i ∧ i ≤ (ss.length : Int) ∧ v = .int x t ∧ 0 ≤ x ∧ x < many
set_option maxHeartbeats 8000000 in
theorem take_ok (w : World) (mean : ExcName → Option Value) (mg mb : Str → Option Value) (bx sl : Addr) (ss : List Int) (i z many : Int) (ti tz tm : Tok) (n : Nat) (hne : sl ≠ bx) (hss : ss.length ≤ 1000) (hi0 : 0 ≤ i) (hi1 : i ≤ (ss.length : Int)) (hm : 0 < many) (hm2 : many ≤ 1000) :
    SpecB w mean mg mb 112 1 [.ref bx, .int many tm] bx (boxOf sl i ti z tz n) (fun h => LAt h sl ss) (TakeOut sl ss many) := by
  unfold SpecB
  k_fill
  w_on
  w_strict (
    intro dp un gd cn cs a ccd cl outer A₀ base h₀ L m s Q E B F X T hk hd hu hb0 hbL hob ha hret
    refine wpAny_call ?_
    k_dflt (refine' code_but (binds := [(Str.ofString "box", .ref bx), (Str.ofString "many", .int many tm)]) ?k1 ?k2 ?k3 ?k5 ?kA ?kF ?kK hb0 hbL hob ?k6 ?k7 ?k8 ?k9 ?kB ?_ ?c2 ?c3 ?c4 ?c5; (((case kA => exact rfl); (case kF => exact rfl); (case kK => assumption); (case k1 => k_asm); (case k2 => k_asm); (case k3 => k_asm); (case k5 => k_asm); (case k6 => k_is); (case k7 => k_is); (case k8 => ktr_room); (case k9 => exact BindsTo.of_eq rfl); (case c5 => decide); (case kB => exact locs rfl); (case c2 => exact rfl); (case c3 => exact rfl); (case c4 => exact rfl); k_whole; intro g' L' h' kB' F' N' B' X' T'; (try dsimp only); (try k_fold))))
    (rename KeptBut _ _ _ => kB')
    obtain ⟨vs, hl, hi⟩ := lat_but kB' hne ha
    (repeat' (first | ((fail_if_success (with_reducible show wpAny _ _ (exec (Stmt.While _ _ _ _) _) _ _ _)); first | (k_unfold; (try dsimp only)) | (k_end; wrow_close) | walk1 | (dsimp only; walk1) | (leave1; walk_say "STEP leave1"; try dsimp only)) | fail "no step")))
  all_goals (rename (∀ (b : Addr) (o : Obj), _ → _) => kP)
  all_goals (rename News _ _ _ _ => N9)
  all_goals exact hret _ _ _ _ (fun b o hb e => kP _ _ (kB' b o hb e)) (N9 _ (by k_mem)).1 ⟨_, _, _, _, _, _, _, rfl, by omega, by omega, rfl, fmod_lo _ hm, fmod_hi _ hm⟩
end
-- row
section
open PySem PySem.W PySem.Spec PySem.Calls PyProof.Rows
set_option maxRecDepth 100000
def RowOut (sl : Addr) (ss : List Int) (most high : Int) (h h' : Heap) (ob : Obj) (v : Value) : Prop :=
  ∃ i ti z tz n r us k rs, ob = boxOf sl i ti z tz n ∧ 0 ≤ i ∧ i ≤ (ss.length : Int) ∧ v = .ref r ∧ h.get? r = none ∧ h'.get? r = some (listOf (List.toArray us) k) ∧ IntsAre us rs ∧ Trimmed rs ∧ (rs.length : Int) ≤ most ∧ ∀ y ∈ rs, -high ≤ y ∧ y ≤ high
local macro_rules | `(tactic| walk_at "call ref") => `(tactic| (k_here; k_dflt (refine' spec_useB (take_ok _ _ _ _ _ _ _ _ _ _ _ _ _ _ ?h1 ?h2 ?h3 ?h4 ?h5 ?h6) ?kB ?kF ?kX ?kN ?kT ?kk ?kU ?ka ?kd ?ku ?_; walk_at "p_useB"); (rename TakeOut _ _ _ _ _ _ _ => o9'); (obtain ⟨i', ti', z', tz', n', x', t', e1', hi0', hi1', e2', hx0', hx1'⟩ := o9'; subst e1' e2'; (rename News _ _ _ _ => n9'); (try dsimp only at n9'); (try k_fold))))
structure RSt where
  r : Addr
  rv : List Value
  rn : Nat
  rs : List Int
abbrev RSt.led (rest : List (Addr × Obj)) (c : RSt) : List (Addr × Obj) := (c.r, listOf c.rv.toArray c.rn) :: rest
abbrev RSt.ps (x : String) (c : RSt) : List (Str × Value) := [(Str.ofString x, .ref c.r)]
abbrev RSt.facts (bx : Addr) (c : RSt) : Prop := c.r ≠ bx ∧ IntsAre c.rv c.rs
abbrev RSt.inv (xs : List Int) (c : RSt) : Prop := c.rs.length ≤ 1000 ∧ trim c.rs = trim xs
abbrev RSt.meas (c : RSt) : Nat := c.rs.length
theorem pos_of_dec {l : List Int} (h : decide (l = []) = false) : 0 < (l.length : Int) := by
  have h' : l ≠ [] := by simpa using h
  have := List.length_pos_iff.mpr h'
  omega
theorem rowOut_of {g h h₁ : Heap} {L bx sl r : Addr} {news : List (Addr × Obj)} {us : List Value} {k n : Nat} {rs xs ss : List Int} {i z most high : Int} {ti tz : Tok} (N : News g L h news) (kb : KeptBut bx h₁ g) (hm : (r, listOf (List.toArray us) k) ∈ news) (hne : r ≠ bx)
    (hi : IntsAre us rs) (h0 : 0 ≤ i) (h1 : i ≤ (ss.length : Int)) (he : rs = trim xs) (hb : ∀ y ∈ xs, -high ≤ y ∧ y ≤ high) (hl : (xs.length : Int) ≤ most) : RowOut sl ss most high h₁ h (boxOf sl i ti z tz n) (.ref r) := by
  refine ⟨i, ti, z, tz, n, r, us, k, rs, rfl, h0, h1, rfl, ?_, (N _ hm).1, hi, ?_, ?_, ?_⟩
  · cases q : h₁.get? r with
    | none => rfl
    | some o => have := kb r o hne q; rw [(N _ hm).2.2] at this; cases this
  · rw [he]; exact trim_trimmed xs
  · rw [he]; have := trim_length_le xs; omega
  · rw [he]; exact fun y hy => hb y (trim_mem hy)
theorem comp_inv {prog : Program} {w : World} {A : Around} {h₀ : Heap} {L : Addr} {m : Str → Option Value} {env : Env} {elt : Expr} {x : Str} {scope : Scope} {cl : List (Str × Addr)} {s : Shared} {S : List (Addr × Obj) → Prop} {P : Nat → Value → Prop} {Fin : List Value → List (Addr × Obj) → Prop} {news : List (Addr × Obj)}
    {Inv : List Value → List (Addr × Obj) → Prop} (n : Nat) (h0 : Inv [] news)
    (turn : ∀ i ys news₁ v I oI C oC D m₂ h tk (E' : Value → Shared → Prop), i < n → P i v → Inv ys news₁ → LCg.NsObj oC m₂ → m₂ x = some v → Fr h₀ L h m → News h₀ L h ((I, oI) :: (C, oC) :: (D, LCg.lst ys) :: news₁) → LCg.Off3 I C D news₁ → ((@Ne Nat I C) ∧ (@Ne Nat I D) ∧ (@Ne Nat C D)) →
      wpAny (model prog w) A (eval elt (compEnvC scope cl C env)) (LCg.CompEnd h₀ L m { s with heap := h, toks := tk } I oI C oC D (LCg.lst ys) S (fun y news' => Inv (ys ++ [y]) news')) E' { s with heap := h, toks := tk })
    (fin : ∀ ys news₁, ys.length = n → Inv ys news₁ → Fin ys news₁) : LCg.CompRest prog w A h₀ L m env elt x scope cl s S P Fin n 0 [] news := by
  have key : ∀ (j i : Nat) (ys : List Value) (nw : List (Addr × Obj)), i + j = n → ys.length = i → Inv ys nw → LCg.CompRest prog w A h₀ L m env elt x scope cl s S P Fin j i ys nw := by
    intro j
    induction j with
    | zero => intro i ys nw hi hy hv; exact LCg.CompRest.zero (fin ys nw (by omega) hv)
    | succ j ih =>
      intro i ys nw hi hy hv
      refine LCg.CompRest.succ ?_
      intro v I oI C oC D m₂ h tk E' hp hC hx F N off ne
      refine wpAny_mono (turn i ys nw v I oI C oC D m₂ h tk E' (by omega) hp hv hC hx F N off ne) (fun y s₂ hq => ?_) fun _ _ e => e
      obtain ⟨h', tk', nw', e, F', N', off', hS, hi'⟩ := hq
      exact ⟨h', tk', nw', e, F', N', off', hS, ih (i + 1) _ _ (by omega) (by simp [hy]) hi'⟩
  exact key n 0 [] news (by omega) rfl h0
def RowInv (sl bx : Addr) (ss : List Int) (high : Int) (pre : List (Addr × Obj)) (ys : List Value) (news : List (Addr × Obj)) : Prop :=
  ∃ i ti z tz n, news = pre ++ [(bx, boxOf sl i ti z tz n)] ∧ 0 ≤ i ∧ i ≤ (ss.length : Int) ∧ ∃ xs : List Int, IntsAre ys xs ∧ ∀ y ∈ xs, -high ≤ y ∧ y ≤ high
theorem rowInv_snoc {sl bx : Addr} {ss : List Int} {high : Int} {pre : List (Addr × Obj)} {ys : List Value} {xs : List Int} {i : Int} {ti : Tok} {z : Int} {tz : Tok} {n : Nat} {y : Int} {t : Tok}
    (hx : IntsAre ys xs) (hb : ∀ y ∈ xs, -high ≤ y ∧ y ≤ high) (h0 : 0 ≤ i) (h1 : i ≤ (ss.length : Int)) (h2 : -high ≤ y) (h3 : y ≤ high) : RowInv sl bx ss high pre (ys ++ [.int y t]) (pre ++ [(bx, boxOf sl i ti z tz n)]) :=
  ⟨i, ti, z, tz, n, rfl, h0, h1, xs ++ [y], IntsAre.append hx (.cons y t .nil), fun w hw => by
    rcases List.mem_append.mp hw with h | h
    · exact hb w h
    · rw [List.mem_singleton.mp h]; exact ⟨h2, h3⟩⟩
set_option maxHeartbeats 8000000 in
theorem row_ok (w : World) (mean : ExcName → Option Value) (mg mb : Str → Option Value) (bx sl : Addr) (ss : List Int) (i z most high : Int) (ti tz tm th : Tok) (n : Nat) (hne : sl ≠ bx) (hss : ss.length ≤ 1000) (hi0 : 0 ≤ i) (hi1 : i ≤ (ss.length : Int)) (hm : 0 ≤ most) (hm2 : most ≤ 100) (hh : 0 ≤ high) (hh2 : high ≤ 100) :
    SpecB w mean mg mb 117 2 [.ref bx, .int most tm, .int high th] bx (boxOf sl i ti z tz n) (fun h => LAt h sl ss) (RowOut sl ss most high) := by
  unfold SpecB
  k_fill
  w_on
  w_strict (
    intro dp un gd cn cs a ccd cl outer A₀ base h₀ L m s Q E B F X T hk hd hu hb0 hbL hob ha hret
    refine wpAny_call ?_
    k_dflt (refine' code_butC (binds := [(Str.ofString "box", .ref bx), (Str.ofString "most", .int most tm), (Str.ofString "high", .int high th)]) ?k1 ?k2 ?k3 ?k5 ?kA ?kF ?kK hb0 hbL hob ?k6 ?k7 ?k8 ?k9 ?kB ?kD ?_ ?c2 ?c3 ?c4; (((case kA => exact rfl); (case kF => exact rfl); (case kK => assumption); (case k1 => k_asm); (case k2 => k_asm); (case k3 => k_asm); (case k5 => k_asm); (case k6 => k_is); (case k7 => k_is); (case k8 => ktr_room); (case k9 => exact BindsTo.of_eq rfl); (case kB => exact rfl); (case kD => decide +kernel); (case c2 => exact rfl); (case c3 => exact rfl); (case c4 => exact rfl); k_whole; intro g' L' h' tk' cells' kB' F' N' Y' B' X' T' l1'; (try k_lt2 l1'); k_cells Y'; (try simp only [List.cons_append, List.nil_append] at N'); (try dsimp only); (try k_fold))))
    (rename KeptBut _ _ _ => kB')
    obtain ⟨vs, hl, hi⟩ := lat_but kB' hne ha
    (repeat' (first | ((fail_if_success (with_reducible show wpAny _ _ (exec (Stmt.While _ _ _ _) _) _ _ _)); (fail_if_success (with_reducible show LCg.CompSrc _ _ _ _ _ _ _ _ _ _ _ _ _ _)); first | (k_unfold; (try dsimp only)) | (k_end; wrow_close) | walk1 | (dsimp only; walk1) | (leave1; walk_say "STEP leave1"; try dsimp only)) | fail "no step"))
    k_dflt (refine LCg.CompSrc.range (by rfl) (by k_asm) (by k_asm) (by assumption) (by exact small_one (by omega) (by omega) (by omega) (by omega)) (by exact rangeSize_nat _ _) (by rw [PySem.sizeLine_eq]; omega) ?_)
    intro g2'
    refine comp_inv (Inv := RowInv sl bx ss high [_, _]) _ ⟨_, _, _, _, _, rfl, by assumption, by assumption, [], IntsAre.nil, fun _ h9 => (nomatch h9)⟩ ?_ ?_
    · intro j ys nw v I oI C oC D m₂ h₂ tk₂ E' hj hv hV hC hx F₂ N₂ off₂ ne₂
      obtain ⟨t9, rfl⟩ := hv
      obtain ⟨i9, ti9, z9, tz9, n9, rfl, hi90, hi91, xs9, hxs9, hb9⟩ := hV
      simp only [LCg.Off3, and_true, List.cons_append, List.nil_append] at off₂ N₂
      (try k_unmd)
      k_fold
      (repeat' (first | ((fail_if_success (with_reducible show wpAny _ _ (exec (Stmt.While _ _ _ _) _) _ _ _)); first | (k_unfold; (try dsimp only)) | (k_end; wrow_close) | walk1 | (dsimp only; walk1) | (leave1; walk_say "STEP leave1"; try dsimp only)) | fail "no step"))
      refine rowInv_snoc hxs9 hb9 (by assumption) (by assumption) (by omega) (by omega)
    · intro ys nw hlen hV
      obtain ⟨i9, ti9, z9, tz9, n9, rfl, hi90, hi91, xs9, hxs9, hb9⟩ := hV
      unfold LCg.FinA
      intro D' h3 tk3 F3 N3 o3
      simp only [LCg.Off1, and_true, List.cons_append, List.nil_append] at o3 N3
      (try k_unmd)
      (try dsimp only)
      (try k_fold)
      (repeat' (first | ((fail_if_success (with_reducible show wpAny _ _ (exec (Stmt.While _ _ _ _) _) _ _ _)); first | (k_unfold; (try dsimp only)) | (k_end; wrow_close) | walk1 | (dsimp only; walk1) | (leave1; walk_say "STEP leave1"; try dsimp only)) | fail "no step"))
      have hxl := IntsAre.length hxs9
      (with_unfolding_all refine' ksw_while (σ := RSt) (RSt.led [(bx, boxOf sl i9 ti9 z9 tz9 n9)]) (RSt.ps "row") (RSt.facts bx) [] (RSt.inv xs9) RSt.meas ⟨D', ys, _, xs9⟩ F3 ?kn ?kf ?kk ?kp ?kt)
      (case kk => k_dflt (exact List.forall_mem_cons.mpr ⟨by with_unfolding_all rfl, List.forall_mem_nil _⟩))
      (case kn => k_dflt (exact kst_newsOf N3 (List.forall_mem_cons.mpr ⟨by k_mem, List.forall_mem_cons.mpr ⟨by k_mem, List.forall_mem_nil _⟩⟩)))
      (case kf => exact ⟨by k_ne, hxs9⟩)
      (case kp => exact ⟨by show xs9.length ≤ 1000; omega, rfl⟩)
      clear F3 N3
      intro c' u' h' tk' hf' hp' F' N'
      obtain ⟨cr', crv', crn', crs'⟩ := c'
      dsimp only [RSt.led, RSt.ps, RSt.facts, RSt.inv, kstB] at hf' hp' F' N'
      obtain ⟨hp1', hp2'⟩ := hp'
      obtain ⟨hfb', hfi'⟩ := hf'
      (try k_unmd)
      k_fold
      (repeat' (first | ((fail_if_success (with_reducible show wpAny _ _ (exec (Stmt.While _ _ _ _) _) _ _ _)); first | (k_unfold; (try dsimp only)) | (k_end; wrow_close) | walk1 | (dsimp only; walk1) | (leave1; walk_say "STEP leave1"; try dsimp only)) | fail "no step"))
      · (rename (∀ (b : Addr) (o : Obj), _ → _) => kP)
        (rename News _ _ _ _ => N9)
        have he : crs' = trim xs9 := by rw [← hp2']; exact (trim_nil_of (by assumption)).symm
        exact hret _ _ _ _ (fun b o hb e => kP _ _ (kB' b o hb e)) (News.get N9 (by k_mem)) (rowOut_of N9 kB' (by k_mem) hfb' hfi' hi90 hi91 he hb9 (by omega))
      · have hpos : 0 < (crs'.length : Int) := pos_of_dec (by assumption)
        (try k_unmd)
        (repeat' (first | ((fail_if_success (with_reducible show wpAny _ _ (exec (Stmt.While _ _ _ _) _) _ _ _)); first | (k_unfold; (try dsimp only)) | (k_end; wrow_close) | walk1 | (dsimp only; walk1) | (leave1; walk_say "STEP leave1"; try dsimp only)) | fail "no step"))
        · (rename Fr _ _ _ _ => lF')
          (rename News _ _ _ _ => lN')
          refine' ksw_end (σ := RSt) ⟨_, _, _, List.take (crs'.length - 1) crs'⟩ lF' lN' ?eM ?ef ?ek ?er ?ep ?em
          (case ek => k_dflt (exact List.forall_mem_cons.mpr ⟨by with_unfolding_all rfl, List.forall_mem_nil _⟩))
          (case eM => k_dflt (exact List.forall_mem_cons.mpr ⟨by k_mem, List.forall_mem_cons.mpr ⟨by k_mem, List.forall_mem_nil _⟩⟩))
          (case ef => exact ⟨by k_ne, by assumption⟩)
          (case er => dsimp only [RSt.ps]; ksw_same)
          (case ep => exact ⟨by show (List.take (crs'.length - 1) crs').length ≤ 1000; rw [List.length_take]; omega, by rw [← hp2']; exact trim_take crs' hpos (by assumption)⟩)
          (case em => show (List.take (crs'.length - 1) crs').length < crs'.length; rw [List.length_take]; omega)
        · (rename (∀ (b : Addr) (o : Obj), _ → _) => kP)
          (rename News _ _ _ _ => N9)
          have he : crs' = trim xs9 := by rw [← hp2']; exact (trim_stop _ hpos (by assumption)).symm
          exact hret _ _ _ _ (fun b o hb e => kP _ _ (kB' b o hb e)) (News.get N9 (by k_mem)) (rowOut_of N9 kB' (by k_mem) hfb' hfi' hi90 hi91 he hb9 (by omega)))
end
-- worth
section
open PySem PySem.W PySem.Spec PySem.Calls PyProof.Rows
set_option maxRecDepth 100000
theorem ints_of_fn (f : Nat → Int) : ∀ (ys : List Value) (k : Nat), (∀ j (hj : j < ys.length), ∃ t, ys[j] = Value.int (f (j + k)) t) → IntsAre ys ((List.range ys.length).map fun i => f (i + k))
  | [], _, _ => .nil
  | y :: r, k, h => by
    obtain ⟨t, e⟩ := h 0 (by simp)
    simp only [List.getElem_cons_zero, Nat.zero_add] at e
    rw [List.length_cons, List.range_succ_eq_map, List.map_cons, List.map_map, e, Nat.zero_add]
    refine .cons _ _ ?_
    have := ints_of_fn f r (k + 1) (fun j hj => by
      obtain ⟨t, e⟩ := h (j + 1) (by simp; omega)
      exact ⟨t, by rw [List.getElem_cons_succ] at e; rw [e]; congr 2; omega⟩)
    have e2 : (fun i => f (i + k)) ∘ Nat.succ = fun i => f (i + (k + 1)) := by
      funext i; simp only [Function.comp_apply]; congr 1; omega
    rw [e2]; exact this
theorem ints_of_turns (ys : List Value) (ns : List Int) (x : Int) (hl : ys.length = ns.length) (h : ∀ j (hj : j < ys.length), ∃ t, ys[j] = Value.int (ns.getD j 0 * x ^ j) t) : IntsAre ys (worthL ns x) := by
  have := ints_of_fn (fun j => ns.getD j 0 * x ^ j) ys 0 (fun j hj => h j hj)
  rw [hl] at this
  exact this
set_option maxHeartbeats 2000000 in
theorem worth_ok (w : World) (mean : ExcName → Option Value) (mg mb : Str → Option Value) (l : Addr) (ns : List Int) (x : Int) (tx : Tok) (hn : ns.length ≤ 20) (hx : -4 ≤ x ∧ x ≤ 4) :
    Spec w mean mg mb 122 1 [.ref l, .int x tx] (fun h => LAt h l ns) (IsI (ev ns x)) := by
  unfold Spec
  k_fill
  w_on
  w_strict (
    intro dp un gd cn cs a ccd cl outer A₀ base h₀ L m s Q E B F X T hk hd hu ha hret
    obtain ⟨vs, hl, hi⟩ := ha
    refine wpAny_call ?_
    k_dflt (refine' code_pureC (binds := [(Str.ofString "row", .ref l), (Str.ofString "place", .int x tx)]) ?k1 ?k2 ?k3 ?k5 ?kA ?kF ?kK ?k6 ?k7 ?k8 ?k9 ?kB ?kD ?_ ?c2 ?c3 ?c4; (((case kA => exact rfl); (case kF => exact rfl); (case kK => assumption); (case k1 => k_asm); (case k2 => k_asm); (case k3 => k_asm); (case k5 => k_asm); (case k6 => k_is); (case k7 => k_is); (case k8 => ktr_room); (case k9 => exact BindsTo.of_eq rfl); (case kB => exact rfl); (case kD => decide +kernel); (case c2 => exact rfl); (case c3 => exact rfl); (case c4 => exact rfl); k_whole; intro L' h' tk' cells' F' N' Y' B' X' T'; k_cells Y'; (try simp only [List.cons_append, List.nil_append] at N'); (try dsimp only); (try k_fold))))
    (repeat' (first | ((fail_if_success (with_reducible show wpAny _ _ (exec (Stmt.While _ _ _ _) _) _ _ _)); (fail_if_success (with_reducible show wpAny _ _ (eval (Expr.ListComp _ _ _ _) _) _ _ _)); (fail_if_success (with_reducible show wpAny _ _ (call (Value.type "enumerate") _) _ _ _)); first | (k_unfold; (try dsimp only)) | (k_end; wrow_close) | walk1 | (dsimp only; walk1) | (leave1; walk_say "STEP leave1"; try dsimp only)) | fail "no step"))
    (rename News _ _ _ _ => N9)
    (rename Fr _ _ _ _ => F9)
    k_dflt (refine comp_enum (its := vs.toArray) (R := fun i y => ∃ t, y = .int (ns.getD i 0 * x ^ i) t) F9 N9 (by rfl) (by with_unfolding_all rfl) (by decide) (by rfl) (by decide) (by rfl) (by rfl) (by decide) (by rw [PySem.sizeLine_eq]; have := hi.length; simp; omega) ?turn ?fin ?iter)
    case iter =>
      (try k_unmd)
      (try k_fold)
      (repeat' (first | ((fail_if_success (with_reducible show wpAny _ _ (exec (Stmt.While _ _ _ _) _) _ _ _)); (fail_if_success (with_reducible show wpAny _ _ (eval (Expr.ListComp _ _ _ _) _) _ _ _)); (fail_if_success (with_reducible show wpAny _ _ (call (Value.type "enumerate") _) _ _ _)); first | (k_unfold; (try dsimp only)) | (k_end; wrow_close) | walk1 | (dsimp only; walk1) | (leave1; walk_say "STEP leave1"; try dsimp only)) | fail "no step"))
      (rename News _ _ _ _ => N8)
      (rename Fr _ _ _ _ => F8)
      refine enumSrc_of F8 N8 (hl.at fun o e => F8.keep _ o e) fun v h' hsrc => ?_
      exact ⟨⟨_, _, rfl⟩, hsrc⟩
    case turn =>
      clear F9 N9
      intro i v C oC m₂ s₂ h2 tk2 E' t hv F2 hC N2 hm1 hm2
      obtain ⟨k, t2, rfl, hk2⟩ := IntsAre.at hi i v (by simpa using hv)
      have hil : i < ns.length := (List.getElem?_eq_some_iff.mp hk2).1
      have hi0 : (0 : Int) ≤ (i : Int) := by omega
      have hi1 : (i : Int) ≤ 1000000 := by omega
      have hxa : x.natAbs < 2 ^ 64 := by omega
      have hpw : x ^ ((i : Int)).toNat < 2 ^ 62 ∧ -2 ^ 62 < x ^ ((i : Int)).toNat := pow_small62 hx _ (by omega)
      (try k_unmd)
      (try k_fold)
      (repeat' (first | ((fail_if_success (with_reducible show wpAny _ _ (exec (Stmt.While _ _ _ _) _) _ _ _)); first | (k_unfold; (try dsimp only)) | (k_end; wrow_close) | walk1 | (dsimp only; walk1) | (leave1; walk_say "STEP leave1"; try dsimp only)) | fail "no step"))
      have hkk : k = ns.getD i 0 := by rw [List.getD_eq_getElem?_getD, hk2]; rfl
      exact endE_ ⟨_, by rw [hkk]; rfl⟩
    case fin =>
      clear F9 N9
      intro D h3 tk3 ys s₁ hs₁ hyl hR F3 N3 o3
      obtain ⟨h4, tk4, rfl⟩ := hs₁
      have hys : IntsAre ys (worthL ns x) := ints_of_turns ys ns x (by rw [hyl, List.size_toArray]; exact hi.length) hR
      have hwl : (worthL ns x).length ≤ 1000 := by simp [worthL]; omega
      (try simp only [LCg.Off1, and_true] at o3)
      (try k_unmd)
      (try dsimp only)
      (try k_fold)
      (repeat' (first | ((fail_if_success (with_reducible show wpAny _ _ (exec (Stmt.While _ _ _ _) _) _ _ _)); first | (k_unfold; (try dsimp only)) | (k_end; wrow_close) | walk1 | (dsimp only; walk1) | (leave1; walk_say "STEP leave1"; try dsimp only)) | fail "no step"))
      (rename Kept _ _ => kP)
      exact hret _ _ _ kP ⟨_, by rw [worth_sum]⟩)
end
-- psr
section
open PySem PySem.W PySem.Spec PySem.Calls PyProof.Rows
set_option maxRecDepth 100000
local macro_rules | `(tactic| walk_at "call ref") => `(tactic| (k_here; k_dflt (refine' spec_useI (worth_ok _ _ _ _ _ _ _ _ ?h1 ?h2) ?kB ?kF ?kX ?kN ?kT ?kk ?ka ?kd ?ku ?_; walk_at "p_useI")))
section
variable {w : World} {mean : ExcName → Option Value} {mg mb : Str → Option Value} {f : Addr} {d : Nat} {vals : List Value} {args : Heap → Prop}
  {dp un : Nat} {gd : Option (List Code)} {cn : Str} {cs : Scope} {a : Addr} {ccd : Value} {cl : List (Str × Addr)} {outer : List Env} {A₀ : Around} {base h₀ : Heap} {L : Addr} {m : Str → Option Value} {s : Shared} {Q E : Value → Shared → Prop} {news : List (Addr × Obj)}
theorem spec_usePs {aa bb : List Int} (C : Spec w mean mg mb f d vals args (PsOut aa bb))
    (B : Below A₀ base outer h₀) (F : Fr h₀ L s.heap m) (X : (Mine.hd.heap_39 w.params).In h₀) (N : News h₀ L s.heap news) (T : Top Mine.hd.view_39 (looseW Mine.hd.view_39 []) mean mg mb h₀) (hk : cs.kind = .function) (ha : args s.heap) (hd : dp + d < recursionLimit) (hu : un + 8 * d + 100 < cLine)
    (ret : ∀ dd t q qv qn r rv rn qs rs h' tk', Fr h₀ L h' m → News h₀ L h' ((dd, tupOf [.ref q, .ref r, .int (psMany aa bb) t]) :: (q, listOf (List.toArray qv) qn) :: (r, listOf (List.toArray rv) rn) :: news) → IntsAre qv qs → IntsAre rv rs → PsPost aa bb qs rs → Q (.ref dd) { s with heap := h', toks := tk' }) :
    wpAny (model PySem.Challenge.rw_pq0213_01.row.prog w) (ktrTop dp un gd cn cs L a ccd cl outer) (call (.ref f) vals) Q E s := by
  refine C dp un gd cn cs a ccd cl outer A₀ base h₀ L m s Q E B F X T hk hd hu ha fun v h' tk' k o => ?_
  obtain ⟨dd, t, q, qv, qn, r, rv, rn, qs, rs, rfl, hd0, hd1, hq0, hq1, iq, hr0, hr1, ir, P⟩ := o
  have ND := (news_new F N k hd0 hd1).1
  have NQ := (news_new F N k hq0 hq1).1
  have NR := (news_new F N k hr0 hr1).1
  refine ret dd t q qv qn r rv rn qs rs h' tk' (fr_kept F k) (fun p hp => ?_) iq ir P
  rcases List.mem_cons.mp hp with rfl | hp
  · exact ND _ List.mem_cons_self
  · rcases List.mem_cons.mp hp with rfl | hp
    · exact NQ _ List.mem_cons_self
    · rcases List.mem_cons.mp hp with rfl | hp
      · exact NR _ List.mem_cons_self
      · exact news_kept N k p hp
end
def EndB (h₀ : Heap) (L : Addr) (m : Str → Option Value) (news : List (Addr × Obj)) (s : Shared) (b : Bool) (s' : Shared) : Prop :=
  b = false ∧ ∃ h tk, s' = { s with heap := h, toks := tk } ∧ Fr h₀ L h m ∧ News h₀ L h news
theorem endB_ {h₀ : Heap} {L : Addr} {m : Str → Option Value} {news : List (Addr × Obj)} {s : Shared} {b : Bool} {h : Heap} {tk : Nat} (e : b = false) (F : Fr h₀ L h m) (N : News h₀ L h news) : EndB h₀ L m news s b { s with heap := h, toks := tk } := ⟨e, h, tk, rfl, F, N⟩
theorem cut_bool {M : Model} {A : Around} {t : Sem Bool} {Q : Bool → Shared → Prop} {E : Value → Shared → Prop} {s : Shared} {h₀ : Heap} {L : Addr} {m : Str → Option Value} {news : List (Addr × Obj)} (F : Fr h₀ L s.heap m) (N : News h₀ L s.heap news)
    (test : wpAny M A t (EndB h₀ L m news s) E s) (rest : ∀ h tk, Fr h₀ L h m → News h₀ L h news → Q false { s with heap := h, toks := tk }) : wpAny M A t Q E s :=
  have _ := F
  have _ := N
  wpAny_mono test (fun b s' e => by obtain ⟨rfl, h, tk, rfl, F', N'⟩ := e; exact rest h tk F' N') fun _ _ e => e
set_option maxHeartbeats 2000000 in
theorem psr_ok (w : World) (mean : ExcName → Option Value) (mg mb : Str → Option Value) (l l2 : Addr) (ns ms : List Int) (hin : InOk ns ms) :
    Spec w mean mg mb 144 6 [.ref l, .ref l2] (fun h => LAt h l ns ∧ LAt h l2 ms) (IsB true) := by
  have hn : ns.length ≤ 20 := by have := hin.la; omega
  have hm : ms.length ≤ 20 := by have := hin.lb; omega
  have hm0 : 0 < ms.length := hin.lb0
  have hpm := psMany_ite ns ms
  unfold Spec
  k_fill
  w_on
  w_strict (
    intro dp un gd cn cs a ccd cl outer A₀ base h₀ L m s Q E B F X T hk hd hu ha hret
    obtain ⟨⟨vs, hl, hi⟩, vs2, hl2, hi2⟩ := ha
    refine wpAny_call ?_
    k_dflt (refine' code_pure (binds := [(Str.ofString "top", .ref l), (Str.ofString "bottom", .ref l2)]) ?k1 ?k2 ?k3 ?k5 ?kA ?kF ?kK ?k6 ?k7 ?k8 ?k9 ?kB ?_ ?c2 ?c3 ?c4 ?c5; (((case kA => exact rfl); (case kF => exact rfl); (case kK => assumption); (case k1 => k_asm); (case k2 => k_asm); (case k3 => k_asm); (case k5 => k_asm); (case k6 => k_is); (case k7 => k_is); (case k8 => ktr_room); (case k9 => exact BindsTo.of_eq rfl); (case c5 => decide); (case kB => exact locs rfl); (case c2 => exact rfl); (case c3 => exact rfl); (case c4 => exact rfl); k_whole; intro L' h' F' N' B' X' T'; (try dsimp only); (try k_fold))))
    (repeat' (first | ((fail_if_success (with_reducible show wpAny _ _ (pyIter _) _ _ _)); (fail_if_success (with_reducible show wpAny _ _ (call (Value.ref 105) _) _ _ _)); (fail_if_success (with_reducible show wpAny _ _ (PySem.isTrue (Expr.BoolOp _ (Expr.BoolOp _ _ _ :: _) _) _ _) _ _ _)); first | (k_unfold; (try dsimp only)) | (k_end; wrow_close) | walk1 | (dsimp only; walk1) | (leave1; walk_say "STEP leave1"; try dsimp only)) | fail "no step"))
    k_dflt (refine' spec_usePs (pseudo_ok _ _ _ _ _ _ _ _ hin) ?kB ?kF ?kX ?kN ?kT ?kk ?ka ?kd ?ku ?_; walk_at "p_use")
    intro dd t0 q qv qn r rv rn qs rs h0 tk0 F0 N0 iq ir P9
    have hrl := P9.rlen
    have hql := P9.qlen
    (try k_sweep)
    (try dsimp only)
    (try k_unmd)
    (try k_fold)
    (repeat' (first | ((fail_if_success (with_reducible show wpAny _ _ (pyIter _) _ _ _)); (fail_if_success (with_reducible show wpAny _ _ (call (Value.ref 105) _) _ _ _)); (fail_if_success (with_reducible show wpAny _ _ (PySem.isTrue (Expr.BoolOp _ (Expr.BoolOp _ _ _ :: _) _) _ _) _ _ _)); first | (k_unfold; (try dsimp only)) | (k_end; wrow_close) | walk1 | (dsimp only; walk1) | (leave1; walk_say "STEP leave1"; try dsimp only)) | fail "no step"))
    · exact absurd hpm.symm (by assumption)
    (rename Fr _ _ _ _ => lF')
    (rename News _ _ _ _ => lN')
    k_dflt (refine cut_bool lF' (kst_newsOf (l' := [(q, listOf qv.toArray qn), (r, listOf rv.toArray rn)]) lN' (List.forall_mem_cons.mpr ⟨by k_mem, List.forall_mem_cons.mpr ⟨by k_mem, List.forall_mem_nil _⟩⟩)) ?test ?rest)
    · (try k_unmd)
      (try k_fold)
      (repeat' (first | ((fail_if_success (with_reducible show wpAny _ _ (exec (Stmt.While _ _ _ _) _) _ _ _)); (fail_if_success (with_reducible show wpAny _ _ (pyIter _) _ _ _)); first | (k_unfold; (try dsimp only)) | (k_end; wrow_close) | walk1 | (dsimp only; walk1) | (leave1; walk_say "STEP leave1"; try dsimp only)) | fail "no step"))
      · (rename Fr _ _ _ _ => f9')
        (rename News _ _ _ _ => n9')
        k_dflt (refine endB_ rfl f9' ?_)
        exact (kst_newsOf n9' (List.forall_mem_cons.mpr ⟨by k_mem, List.forall_mem_cons.mpr ⟨by k_mem, List.forall_mem_nil _⟩⟩))
      · have hpos := pos_of_dec2 (by assumption)
        (try k_unmd)
        (repeat' (first | ((fail_if_success (with_reducible show wpAny _ _ (exec (Stmt.While _ _ _ _) _) _ _ _)); (fail_if_success (with_reducible show wpAny _ _ (pyIter _) _ _ _)); first | (k_unfold; (try dsimp only)) | (k_end; wrow_close) | walk1 | (dsimp only; walk1) | (leave1; walk_say "STEP leave1"; try dsimp only)) | fail "no step"))
        · exact (trimmed_bad P9.tq hpos (by assumption)).elim
        · (rename Fr _ _ _ _ => f9')
          (rename News _ _ _ _ => n9')
          k_dflt (refine endB_ rfl f9' ?_)
          exact (kst_newsOf n9' (List.forall_mem_cons.mpr ⟨by k_mem, List.forall_mem_cons.mpr ⟨by k_mem, List.forall_mem_nil _⟩⟩))
      · have hpos := pos_of_dec2 (by assumption)
        (try k_unmd)
        (repeat' (first | ((fail_if_success (with_reducible show wpAny _ _ (exec (Stmt.While _ _ _ _) _) _ _ _)); (fail_if_success (with_reducible show wpAny _ _ (pyIter _) _ _ _)); first | (k_unfold; (try dsimp only)) | (k_end; wrow_close) | walk1 | (dsimp only; walk1) | (leave1; walk_say "STEP leave1"; try dsimp only)) | fail "no step"))
        · exact (trimmed_bad P9.tr hpos (by assumption)).elim
        · (rename Fr _ _ _ _ => f9')
          (rename News _ _ _ _ => n9')
          k_dflt (refine endB_ rfl f9' ?_)
          exact (kst_newsOf n9' (List.forall_mem_cons.mpr ⟨by k_mem, List.forall_mem_cons.mpr ⟨by k_mem, List.forall_mem_nil _⟩⟩))
        · have hpos2 := pos_of_dec2 (by assumption)
          (try k_unmd)
          (repeat' (first | ((fail_if_success (with_reducible show wpAny _ _ (exec (Stmt.While _ _ _ _) _) _ _ _)); (fail_if_success (with_reducible show wpAny _ _ (pyIter _) _ _ _)); first | (k_unfold; (try dsimp only)) | (k_end; wrow_close) | walk1 | (dsimp only; walk1) | (leave1; walk_say "STEP leave1"; try dsimp only)) | fail "no step"))
          · exact (trimmed_bad P9.tq hpos2 (by assumption)).elim
          · (rename Fr _ _ _ _ => f9')
            (rename News _ _ _ _ => n9')
            k_dflt (refine endB_ rfl f9' ?_)
            exact (kst_newsOf n9' (List.forall_mem_cons.mpr ⟨by k_mem, List.forall_mem_cons.mpr ⟨by k_mem, List.forall_mem_nil _⟩⟩))
    · clear lF' lN'
      intro h5 tk5 F5 N5
      refine ite_neg Bool.false_ne_true ?_
      (try k_unmd)
      (try dsimp only)
      (try k_fold)
      (repeat' (first | ((fail_if_success (with_reducible show wpAny _ _ (pyIter _) _ _ _)); (fail_if_success (with_reducible show wpAny _ _ (call (Value.ref 105) _) _ _ _)); (fail_if_success (with_reducible show wpAny _ _ (PySem.isTrue (Expr.BoolOp _ (Expr.BoolOp _ _ _ :: _) _) _ _) _ _ _)); first | (k_unfold; (try dsimp only)) | (k_end; wrow_close) | walk1 | (dsimp only; walk1) | (leave1; walk_say "STEP leave1"; try dsimp only)) | fail "no step"))
      (rename Fr _ _ _ _ => lF')
      (rename News _ _ _ _ => lN')
      (rename IsRange _ _ _ _ _ _ _ _ => rgX)
      (k_dflt (refine kst_range (σ := Unit) (n := 9) (a₀ := -4) (b₀ := 5) (fun _ => _) (fun _ => []) (fun _ => True) [Str.ofString "due"] (fun _ _ => True) () (by rfl) rgX (by decide) (by rfl) lF' lN' trivial (List.forall_mem_nil _) trivial ?turn ?done))
      · clear lF' lN'
        intro c' pre' k' t' u' h' tk' own' hk' hlt' hoff' hf' hp' F' N'
        have hk4' : -4 ≤ k' ∧ k' ≤ 4 := by omega
        have hid' := P9.id k'
        have hev' := psr_evb hin hk4'
        have hpw' := psr_pow hin
        have hab' := psr_abs hin
        have hpr' := psMany_range hin
        have hp0' := hpr'.1
        have hp1' := hpr'.2
        rw [← last_int _ hin.lb0] at hid'
        simp only [List.cons_append, List.nil_append, kstB] at F' N'
        clear hpr'
        (try k_unmd)
        (try k_fold)
        (repeat' (first | ((fail_if_success (with_reducible show ite _ _ _)); first | (k_unfold; (try dsimp only)) | walk1 | (dsimp only; walk1)) | fail "no step"))
        refine ite_neg (by rw [hid', bne_self_eq_false]; exact Bool.false_ne_true) ?_
        clear hid' hpw' hev' hab' hp0' hp1'
        (try k_unmd)
        (repeat' (first | ((fail_if_success (with_reducible show ite _ _ _)); first | (k_unfold; (try dsimp only)) | walk1 | (dsimp only; walk1)) | fail "no step"))
      · clear lF' lN'
        intro c' u' h' tk' hf' hp' F' N'
        dsimp only [kstB] at F'
        (try k_unmd)
        (try dsimp only)
        (try k_fold)
        (repeat' (first | ((fail_if_success (with_reducible show wpAny _ _ (exec (Stmt.While _ _ _ _) _) _ _ _)); (fail_if_success (with_reducible show wpAny _ _ (pyIter _) _ _ _)); first | (k_unfold; (try dsimp only)) | (k_end; wrow_close) | walk1 | (dsimp only; walk1) | (leave1; walk_say "STEP leave1"; try dsimp only)) | fail "no step"))
        (rename Kept _ _ => kP)
        exact hret _ _ _ kP rfl)
end
-- times
section
open PySem PySem.W PySem.Spec PySem.Calls PyProof.Rows
set_option maxRecDepth 100000
def timesLo (ms : List Int) (p : Int) : Int := if (0 : Int) + p - ms.length + 1 > 0 then (0 : Int) + p - ms.length + 1 else 0
def timesHi (ns : List Int) (p : Int) : Int := (if (ns.length : Int) - 1 < 0 + p then (ns.length : Int) - 1 else 0 + p) + 1
def timesAt (ns ms : List Int) (p : Int) : Int :=
  ((rangeKs (timesLo ms p) (timesHi ns p - timesLo ms p).toNat).map fun (k : Int) => ns.getD k.toNat 0 * ms.getD (0 + p - k).toNat 0).sum
def timesL (ns ms : List Int) : List Int := (List.range (if ns = [] then 0 else ns.length + ms.length - 1)).map fun (i : Nat) => timesAt ns ms (i : Int)
def TimesJ (fd : Addr) (ts : List (Addr × Obj)) (cp : Addr) (rest : List (Addr × Obj)) (m0 : Str → Option Value) (ns ms : List Int) (i : Nat) (m : Str → Option Value) (led : List (Addr × Obj)) : Prop :=
  ∃ fv fn op pv, ∃ u : Str → Option Value, led = (fd, listOf (List.toArray fv) fn) :: (ts ++ (cp, op) :: rest) ∧ op.data = .cell pv ∧ IntsAre fv ((List.range i).map fun (j : Nat) => timesAt ns ms (j : Int)) ∧ m = fun z => if z = Str.ofString "lows" then u z else m0 z
abbrev rangeObj (a b : Int) (t u v : Tok) : Obj := { cls := .type "range", dict := none, data := .fields #[.int a t, .int b u, .int 1 v], slots := #[] }
section
variable {prog : Program} {w : World} {A : Around} {E : Value → Shared → Prop} {s : Shared} {h₀ : Heap} {L : Addr} {m : Str → Option Value} {news : List (Addr × Obj)}
theorem range2_own {Q : Value → Shared → Prop} {a b : Int} {t u : Tok} (F : Fr h₀ L s.heap m) (N : News h₀ L s.heap news)
    (h : ∀ r h' tk t₁ u₁ v₁, Fr h₀ L h' m → News h₀ L h' ((r, rangeObj a b t₁ u₁ v₁) :: news) → (∀ p ∈ news, p.1 < r) → Q (.ref r) { s with heap := h', toks := tk }) :
    wpAny (model prog w) A (call (.type "range") [.int a t, .int b u]) Q E s := by
  refine range2_rows F N fun h' tk t₁ u₁ v₁ R F' N' k => ?_
  refine h s.heap.objs.size h' tk t₁ u₁ v₁ F' (fun p hp => ?_) (fun p hp => Heap.lt_size (N p hp).1)
  rcases List.mem_cons.mp hp with rfl | hp
  · exact ⟨R, (Nat.ne_of_lt F.ns.lt).symm, next_is_new F⟩
  · exact N' p hp
end
local macro_rules | `(tactic| walk_at "call type:range") => `(tactic| ((with_reducible show wpAny _ _ (call _ [_, _]) _ _ _); k_dflt (refine' range2_own ?k1 ?k2 ?_; (case k1 => k_asm); (case k2 => k_asm); k_whole); intro l' h' tk' t1' u1' v1' F' N' l1; (try k_lt l1); (try k_sweep); (try dsimp only); (try k_fold)))
theorem off1_mem {r : Addr} : ∀ {l : List (Addr × Obj)}, LCg.Off1 r l → ∀ p ∈ l, p.1 ≠ r
  | [], _, p, hp => nomatch hp
  | _ :: _, x, p, hp => by
    rcases List.mem_cons.mp hp with rfl | hp
    · exact x.1
    · exact off1_mem x.2 p hp
def TimesInv (ns ms : List Int) (i : Nat) (lo : Int) (ys : List Value) : Prop := IntsAre ys ((rangeKs lo ys.length).map fun (k : Int) => ns.getD k.toNat 0 * ms.getD (0 + (i : Int) - k).toNat 0)
theorem times_idx {lo hh9 : Int} {i j a b : Nat} (b1 : 0 ≤ lo ∧ (i : Int) - lo < b) (b2 : hh9 ≤ a ∧ hh9 ≤ (i : Int) + 1) (ha : a ≤ 20) (hb : b ≤ 20) (hj : j < (hh9 - lo).toNat) :
    0 ≤ lo + (j : Int) ∧ lo + (j : Int) < a ∧ 0 ≤ 0 + (i : Int) - (lo + j) ∧ 0 + (i : Int) - (lo + j) < b ∧ lo + (j : Int) < 2 ^ 63 ∧ 0 + (i : Int) - (lo + j) < 2 ^ 63 := by omega
theorem times_mul {ns ms : List Int} (h : InOk ns ms) (i j : Nat) : IntMulOk (ns.getD i 0) (ms.getD j 0) := by
  have q1 := bnd_getD h.ba i
  exact PySem.IntMulOk.of_left (PySem.intBits_le_64 (by omega) (by omega))
theorem times_m {x : Str} {a : Option Value} {u m0 : Str → Option Value} : (fun y => if y = x then a else (if y = x then u y else m0 y)) = fun z => if z = x then (fun _ => a) z else m0 z := by
  funext z
  by_cases h : z = x <;> simp [h]
theorem times_eq {ns ms : List Int} (h : 0 < ns.length) : timesL ns ms = (List.range (ns.length + ms.length - 1)).map fun (i : Nat) => timesAt ns ms (i : Int) := by
  unfold timesL
  rw [if_neg (by intro e; rw [e] at h; exact absurd h (by decide))]
theorem times_ints {ns ms : List Int} {fv : List Value} {i : Nat} {x : Int} {t : Tok} (h : IntsAre fv ((List.range i).map fun (j : Nat) => timesAt ns ms (j : Int))) (e : timesAt ns ms i = x) :
    IntsAre (fv ++ [.int x t]) ((List.range (i + 1)).map fun (j : Nat) => timesAt ns ms (j : Int)) := by
  rw [List.range_succ, List.map_append, List.map_singleton, e]
  exact IntsAre.append h (.cons _ _ .nil)
theorem times_nil {ns ms : List Int} (h : ns = []) : IntsAre [] (timesL ns ms) := by
  unfold timesL
  rw [if_pos h]
  exact .nil
def TimesZ (m0 : Str → Option Value) (l0 : List (Addr × Obj)) (_ : Nat) (m : Str → Option Value) (led : List (Addr × Obj)) : Prop := m = m0 ∧ led = l0
theorem times_snoc (f : Int → Int) (lo : Int) (n : Nat) : (rangeKs lo (n + 1)).map f = (rangeKs lo n).map f ++ [f (lo + n)] := by
  simp [rangeKs, List.range_succ]
def InvN (news : List (Addr × Obj)) (Inv : List Value → Prop) (ys : List Value) (news' : List (Addr × Obj)) : Prop := news' = news ∧ Inv ys
theorem comp_invN {prog : Program} {w : World} {A : Around} {h₀ : Heap} {L : Addr} {m : Str → Option Value} {env : Env} {elt : Expr} {x : Str} {scope : Scope} {cl : List (Str × Addr)} {s : Shared} {S : List (Addr × Obj) → Prop} {P : Nat → Value → Prop} {Fin : List Value → List (Addr × Obj) → Prop} {news : List (Addr × Obj)}
    {Inv : List Value → Prop} (n : Nat) (h0 : Inv [])
    (turn : ∀ i ys v I oI C oC D m₂ h tk (E' : Value → Shared → Prop), i < n → ys.length = i → P i v → Inv ys → LCg.NsObj oC m₂ → m₂ x = some v → Fr h₀ L h m → News h₀ L h ((I, oI) :: (C, oC) :: (D, LCg.lst ys) :: news) → LCg.Off3 I C D news → ((@Ne Nat I C) ∧ (@Ne Nat I D) ∧ (@Ne Nat C D)) →
      wpAny (model prog w) A (eval elt (compEnvC scope cl C env)) (LCg.CompEnd h₀ L m { s with heap := h, toks := tk } I oI C oC D (LCg.lst ys) S (fun y news' => InvN news Inv (ys ++ [y]) news')) E' { s with heap := h, toks := tk })
    (fin : ∀ ys, ys.length = n → Inv ys → Fin ys news) : LCg.CompRest prog w A h₀ L m env elt x scope cl s S P Fin n 0 [] news := by
  have key : ∀ (j i : Nat) (ys : List Value), i + j = n → ys.length = i → Inv ys → LCg.CompRest prog w A h₀ L m env elt x scope cl s S P Fin j i ys news := by
    intro j
    induction j with
    | zero => intro i ys hi hy hv; exact LCg.CompRest.zero (fin ys (by omega) hv)
    | succ j ih =>
      intro i ys hi hy hv
      refine LCg.CompRest.succ ?_
      intro v I oI C oC D m₂ h tk E' hp hC hx F N off ne
      refine wpAny_mono (turn i ys v I oI C oC D m₂ h tk E' (by omega) hy hp hv hC hx F N off ne) (fun y s₂ hq => ?_) fun _ _ e => e
      obtain ⟨h', tk', nw', e, F', N', off', hS, rfl, hi'⟩ := hq
      exact ⟨h', tk', _, e, F', N', off', hS, ih (i + 1) _ (by omega) (by simp [hy]) hi'⟩
  exact key n 0 [] (by omega) rfl h0
theorem times_size {fv : List Value} {l : List Int} (h : IntsAre fv l) (hl : l.length ≤ 1000) : fv.toArray.size ≤ sizeLine := by
  rw [PySem.sizeLine_eq, List.size_toArray, h.length]; omega
local macro_rules | `(tactic| walk_at "subscriptTail Name Name ref int") => `(tactic| ((with_reducible show wpAny _ _ (subscriptTail _ _ (Value.ref _) (Value.int _ _)) _ _ _); (with_unfolding_all refine' item_list_ints ?k1 ?k2 ?k3 ?k4 ?k5 ?_; (case k1 => is_list); (case k2 => l_ints); (case k3 => with_reducible assumption); (case k4 => with_reducible assumption); (case k5 => with_reducible assumption); k_whole); intro _))
local macro_rules | `(tactic| walk_at "subscriptTail Name BinOp ref int") => `(tactic| ((with_reducible show wpAny _ _ (subscriptTail _ _ (Value.ref _) (Value.int _ _)) _ _ _); (with_unfolding_all refine' item_list_ints ?k1 ?k2 ?k3 ?k4 ?k5 ?_; (case k1 => is_list); (case k2 => l_ints); (case k3 => with_reducible assumption); (case k4 => with_reducible assumption); (case k5 => with_reducible assumption); k_whole); intro _))
set_option maxHeartbeats 3000000 in
theorem times_ok (w : World) (mean : ExcName → Option Value) (mg mb : Str → Option Value) (l l2 : Addr) (ns ms : List Int) (hin : InOk ns ms) :
    Spec w mean mg mb 127 1 [.ref l, .ref l2] (fun h => LAt h l ns ∧ LAt h l2 ms) (NewL (timesL ns ms)) := by
  have hn : ns.length ≤ 20 := by have := hin.la; omega
  have hm : ms.length ≤ 20 := by have := hin.lb; omega
  have hm0 : 0 < ms.length := hin.lb0
  unfold Spec
  k_fill
  w_on
  w_strict (
    intro dp un gd cn cs a ccd cl outer A₀ base h₀ L m s Q E B F X T hk hd hu ha hret
    obtain ⟨⟨vs, hl, hi⟩, vs2, hl2, hi2⟩ := ha
    refine wpAny_call ?_
    k_dflt (refine' code_pureC (binds := [(Str.ofString "left", .ref l), (Str.ofString "right", .ref l2)]) ?k1 ?k2 ?k3 ?k5 ?kA ?kF ?kK ?k6 ?k7 ?k8 ?k9 ?kB ?kD ?_ ?c2 ?c3 ?c4; (((case kA => exact rfl); (case kF => exact rfl); (case kK => assumption); (case k1 => k_asm); (case k2 => k_asm); (case k3 => k_asm); (case k5 => k_asm); (case k6 => k_is); (case k7 => k_is); (case k8 => ktr_room); (case k9 => exact BindsTo.of_eq rfl); (case kB => exact rfl); (case kD => decide +kernel); (case c2 => exact rfl); (case c3 => exact rfl); (case c4 => exact rfl); k_whole; intro L' h' tk' cells' F' N' Y' B' X' T'; k_cells Y'; (try simp only [List.cons_append, List.nil_append] at N'); (try dsimp only); (try k_fold))))
    (repeat' (first | ((fail_if_success (with_reducible show wpAny _ _ (exec (Stmt.While _ _ _ _) _) _ _ _)); (fail_if_success (with_reducible show wpAny _ _ (exec (Stmt.For _ _ _ _ _) _) _ _ _)); (fail_if_success (with_reducible show wpAny _ _ (eval (Expr.ListComp _ _ _ _) _) _ _ _)); first | (k_unfold; (try dsimp only)) | (k_end; wrow_close) | walk1 | (dsimp only; walk1) | (leave1; walk_say "STEP leave1"; try dsimp only)) | fail "no step"))
    · have hz : ns = [] := of_decide_eq_true (by assumption)
      (rename Fr _ _ _ _ => lF')
      k_dflt (refine for_range lF' (by rfl) ?_)
      (repeat' (first | ((fail_if_success (with_reducible show wpAny _ _ (exec (Stmt.While _ _ _ _) _) _ _ _)); (fail_if_success (with_reducible show wpAny _ _ (exec (Stmt.For _ _ _ _ _) _) _ _ _)); (fail_if_success (with_reducible show wpAny _ _ (eval (Expr.ListComp _ _ _ _) _) _ _ _)); first | (k_unfold; (try dsimp only)) | (k_end; wrow_close) | walk1 | (dsimp only; walk1) | (leave1; walk_say "STEP leave1"; try dsimp only)) | fail "no step"))
      (rename Fr _ _ _ _ => lF2)
      (rename News _ _ _ _ => lN')
      (rename IsRange _ _ _ _ _ _ _ _ => rgX)
      k_dflt (refine' forAt_ (n := 0) (TimesZ _ _) rgX (by decide) (by rfl) lF2 lN' ⟨rfl, rfl⟩ (fun i t m₁ led₁ I oI h₃ tk₃ hi => absurd hi (Nat.not_lt_zero _)) ?_)
      intro h4 tk4 m4 led4 hJ F4 N4
      obtain ⟨rfl, rfl⟩ := hJ
      (try k_unmd)
      (try dsimp only)
      (try k_fold)
      (repeat' (first | ((fail_if_success (with_reducible show wpAny _ _ (exec (Stmt.While _ _ _ _) _) _ _ _)); first | (k_unfold; (try dsimp only)) | (k_end; wrow_close) | walk1 | (dsimp only; walk1) | (leave1; walk_say "STEP leave1"; try dsimp only)) | fail "no step"))
      (rename Kept _ _ => kP)
      exact hret _ _ _ kP (newL_of N4 (by k_mem) (times_nil hz) rfl)
    · exfalso
      have h9 := List.length_pos_iff.mp hm0
      exact h9 (of_decide_eq_true (by assumption))
    · have hpos : 0 < ns.length := by have := pos_of_dec2 (l := ns) (by assumption); omega
      (rename Fr _ _ _ _ => lF')
      k_dflt (refine for_range lF' (by rfl) ?_)
      (repeat' (first | ((fail_if_success (with_reducible show wpAny _ _ (exec (Stmt.While _ _ _ _) _) _ _ _)); (fail_if_success (with_reducible show wpAny _ _ (exec (Stmt.For _ _ _ _ _) _) _ _ _)); (fail_if_success (with_reducible show wpAny _ _ (eval (Expr.ListComp _ _ _ _) _) _ _ _)); first | (k_unfold; (try dsimp only)) | (k_end; wrow_close) | walk1 | (dsimp only; walk1) | (leave1; walk_say "STEP leave1"; try dsimp only)) | fail "no step"))
      (rename Fr _ _ _ _ => lF2)
      (rename News _ _ _ _ => lN')
      (rename IsRange _ _ _ _ _ _ _ _ => rgX)
      k_dflt (refine' forAt_ (n := ns.length + ms.length - 1) (TimesJ _ [_, _] _ [_, _] _ ns ms) rgX ?sm ?sz lF2 lN' ⟨[], 0, _, _, _, rfl, by assumption, .nil, (funext fun z => (ite_self _).symm)⟩ ?turn ?done)
      case sm => exact small_one (by omega) (by omega) (by omega) (by omega)
      case sz => exact (rangeSize_nat _ _).trans (congrArg Nat.cast (by omega))
      · intro i t m₁ led₁ I oI h₃ tk₃ hi hJ hne3 F3 N3
        obtain ⟨lo, hlo⟩ : ∃ lo : Int, (if (0 : Int) + ↑i - ↑ms.length + 1 > 0 then (0 : Int) + ↑i - ↑ms.length + 1 else 0) = lo := ⟨_, rfl⟩
        obtain ⟨hh9, hhh⟩ : ∃ hh9 : Int, ((if (ns.length : Int) - 1 < 0 + ↑i then (ns.length : Int) - 1 else 0 + ↑i) + 1) = hh9 := ⟨_, rfl⟩
        have b1 : 0 ≤ lo ∧ (i : Int) - lo < ms.length := by rw [← hlo]; split <;> omega
        have b2 : hh9 ≤ ns.length ∧ hh9 ≤ (i : Int) + 1 := by rw [← hhh]; split <;> omega
        have hi20 : i ≤ 1000 := by omega
        obtain ⟨fv, fn, op, pv, u, rfl, hop, hfi, rfl⟩ := hJ
        have hsz9 := times_size hfi (by rw [List.length_map, List.length_range]; exact hi20)
        have hne4 := off1_of hne3
        clear hne3
        simp only [LCg.Off1, and_true, List.cons_append, List.nil_append] at hne4 N3
        (try k_unmd)
        k_fold
        (repeat' (first | ((fail_if_success (with_reducible show wpAny _ _ (exec (Stmt.While _ _ _ _) _) _ _ _)); (fail_if_success (with_reducible show wpAny _ _ (exec (Stmt.For _ _ _ _ _) _) _ _ _)); (fail_if_success (with_reducible show wpAny _ _ (eval (Expr.ListComp _ _ _ _) _) _ _ _)); first | (k_unfold; (try dsimp only)) | (k_end; wrow_close) | walk1 | (dsimp only; walk1) | (leave1; walk_say "STEP leave1"; try dsimp only)) | fail "no step"))
        (rename News _ _ _ _ => N5)
        rw [hlo, hhh] at N5
        (repeat' (first | ((fail_if_success (with_reducible show wpAny _ _ (exec (Stmt.While _ _ _ _) _) _ _ _)); (fail_if_success (with_reducible show LCg.CompSrc _ _ _ _ _ _ _ _ _ _ _ _ _ _)); first | (k_unfold; (try dsimp only)) | (k_end; wrow_close) | walk1 | (dsimp only; walk1) | (leave1; walk_say "STEP leave1"; try dsimp only)) | fail "no step"))
        (rename News _ _ _ _ => N6)
        k_dflt (refine LCg.CompSrc.range (by rfl) (by k_asm) (by k_asm) (News.get N6 (by k_mem)) (by exact small_one (by omega) (by omega) (by omega) (by omega)) (by exact rangeSize_nat _ _) (by rw [PySem.sizeLine_eq]; omega) ?_)
        intro g2'
        refine comp_invN (Inv := TimesInv ns ms i lo) _ .nil ?_ ?_
        · intro j ys v I2 oI2 C oC D m₂ h₂ tk₂ E' hj hyl hv hxs9 hC hx F₂ N₂ off₂ ne₂
          obtain ⟨t9, rfl⟩ := hv
          simp only [LCg.Off3, and_true] at off₂ N₂
          (try k_unmd)
          k_fold
          obtain ⟨z1, z2, z3, z4, z5, z6⟩ := times_idx b1 b2 hn hm hj
          have q1 := times_mul hin (lo + (j : Int)).toNat (0 + (i : Int) - (lo + (j : Int))).toNat
          (repeat' (first | ((fail_if_success (with_reducible show wpAny _ _ (exec (Stmt.While _ _ _ _) _) _ _ _)); first | (k_unfold; (try dsimp only)) | (k_end; wrow_close) | walk1 | (dsimp only; walk1) | (leave1; walk_say "STEP leave1"; try dsimp only)) | fail "no step"))
          refine ⟨rfl, ?_⟩
          unfold TimesInv
          rw [List.length_append, List.length_singleton, times_snoc, hyl]
          exact IntsAre.append (by rw [← hyl]; exact hxs9) (.cons _ _ .nil)
        · intro ys hyl hxs9
          unfold TimesInv at hxs9
          rw [hyl] at hxs9
          unfold LCg.FinE
          intro D' h3 tk3 F3 N3 o3
          simp only [LCg.Off1, and_true] at o3
          (try k_unmd)
          (try dsimp only)
          (try k_fold)
          (repeat' (first | ((fail_if_success (with_reducible show wpAny _ _ (call (Value.builtin "list.append") _) _ _ _)); first | (k_unfold; (try dsimp only)) | (k_end; wrow_close) | walk1 | (dsimp only; walk1) | (leave1; walk_say "STEP leave1"; try dsimp only)) | fail "no step"))
          simp only [List.cons_append, List.nil_append]
          (try k_fold)
          walk_at "call builtin:list.append"
          (repeat' (first | ((fail_if_success (with_reducible show wpAny _ _ (exec (Stmt.While _ _ _ _) _) _ _ _)); first | (k_unfold; (try dsimp only)) | (k_end; wrow_close) | walk1 | (dsimp only; walk1) | (leave1; walk_say "STEP leave1"; try dsimp only)) | fail "no step"))
          (rename News _ _ _ _ => N9)
          (rename Fr _ _ _ _ => F9)
          simp only [List.push_toArray] at N9
          refine' turnEnd_ _ F9 N9 ?hi ?ho ⟨fv ++ [_], fn + 1, _, some (.int (0 + (i : Int)) t), _, rfl, by assumption, times_ints hfi ?hx, times_m⟩
          case hx =>
            unfold timesAt timesLo timesHi
            rw [hlo, hhh]
          case hi =>
            simp only [List.cons_append, List.nil_append]
            exact List.forall_mem_cons.mpr ⟨by k_mem, List.forall_mem_cons.mpr ⟨by k_mem, List.forall_mem_cons.mpr ⟨by k_mem, List.forall_mem_cons.mpr ⟨by k_mem, List.forall_mem_cons.mpr ⟨by k_mem, List.forall_mem_cons.mpr ⟨by k_mem, List.forall_mem_cons.mpr ⟨by k_mem, List.forall_mem_nil _⟩⟩⟩⟩⟩⟩⟩
          case ho =>
            intro p hp q hq
            rw [List.mem_singleton.mp hq]
            refine off1_mem ?_ p hp
            simp only [List.cons_append, List.nil_append, LCg.Off1, and_true]
            exact hne4
      · intro h4 tk4 m4 led4 hJ F4 N4
        obtain ⟨fv, fn, op, pv, u, rfl, hop, hfi, rfl⟩ := hJ
        simp only [List.cons_append, List.nil_append] at N4
        (try k_unmd)
        (try dsimp only)
        (try k_fold)
        (repeat' (first | ((fail_if_success (with_reducible show wpAny _ _ (exec (Stmt.While _ _ _ _) _) _ _ _)); first | (k_unfold; (try dsimp only)) | (k_end; wrow_close) | walk1 | (dsimp only; walk1) | (leave1; walk_say "STEP leave1"; try dsimp only)) | fail "no step"))
        (rename Kept _ _ => kP)
        rw [← times_eq hpos] at hfi
        exact hret _ _ _ kP (newL_of N4 (by k_mem) hfi rfl))
end
-- TimesMath
section
open PySem PySem.W PySem.Spec PySem.Calls PyProof.Rows
theorem sum_window {g : Nat → Int} {F : Int → Int} {lo c : Nat} : ∀ (n : Nat), (∀ k, k < lo → g k = 0) → (∀ k, lo ≤ k → k < lo + c → g k = F (k : Int)) → (∀ k, lo + c ≤ k → k < n → g k = 0) → lo + c ≤ n →
    ((List.range n).map g).sum = ((rangeKs (lo : Int) c).map F).sum := by
  intro n h1 h2 h3 hn
  have s1 : ∀ j, j ≤ lo → ((List.range j).map g).sum = 0 := by
    intro j
    induction j with
    | zero => intro _; rfl
    | succ j ih => intro hj; rw [List.range_succ, List.map_append, List.sum_append, ih (by omega)]; simp [h1 j (by omega)]
  have s2 : ∀ j, j ≤ c → ((List.range (lo + j)).map g).sum = ((rangeKs (lo : Int) j).map F).sum := by
    intro j
    induction j with
    | zero => intro _; rw [Nat.add_zero, s1 lo (Nat.le_refl _)]; rfl
    | succ j ih =>
      intro hj
      rw [← Nat.add_assoc, List.range_succ, List.map_append, List.sum_append, ih (by omega), times_snoc, List.sum_append, List.map_singleton, h2 (lo + j) (by omega) (by omega)]
      simp
  have s3 : ∀ j, lo + c + j ≤ n → ((List.range (lo + c + j)).map g).sum = ((rangeKs (lo : Int) c).map F).sum := by
    intro j
    induction j with
    | zero => intro _; exact s2 c (Nat.le_refl _)
    | succ j ih =>
      intro hj
      rw [← Nat.add_assoc, List.range_succ, List.map_append, List.sum_append, ih (by omega)]
      simp [h3 (lo + c + j) (by omega) (by omega)]
  have := s3 (n - (lo + c)) (by omega)
  rwa [show lo + c + (n - (lo + c)) = n by omega] at this
theorem timesAt_conv (ns ms : List Int) (i : Nat) (hm : 0 < ms.length) (hi : i < ns.length + ms.length - 1) : timesAt ns ms (i : Int) = convN (fun k => ns.getD k 0) ms ns.length i := by
  obtain ⟨lo, hlo⟩ : ∃ lo : Nat, timesLo ms (i : Int) = (lo : Int) := ⟨(timesLo ms i).toNat, by unfold timesLo; split <;> omega⟩
  have hl1 : (i : Int) - lo < ms.length ∧ (lo : Int) ≤ i := by rw [← hlo]; unfold timesLo; split <;> omega
  have hl2 : ∀ k : Nat, k < lo → (ms.length : Int) ≤ i - k := by intro k hk; have : (lo : Int) = timesLo ms i := hlo.symm; unfold timesLo at this; split at this <;> omega
  have hl3 : lo ≤ ns.length := by have : (lo : Int) = timesLo ms i := hlo.symm; unfold timesLo at this; split at this <;> omega
  have hh : timesHi ns i ≤ ns.length ∧ timesHi ns i ≤ (i : Int) + 1 ∧ ((ns.length : Int) ≤ timesHi ns i ∨ (i : Int) + 1 ≤ timesHi ns i) := by unfold timesHi; split <;> omega
  unfold timesAt
  rw [hlo, convN_sum]
  generalize timesHi ns i = hi9 at hh
  refine (sum_window _ (fun k hk => ?_) (fun k h1 h2 => ?_) (fun k h1 h2 => ?_) ?_).symm
  · rw [if_neg (by omega), getD_ge ms (i - k) (by have := hl2 k hk; omega)]
    simp
  · rw [if_neg (by omega), Int.toNat_natCast, show (0 + (i : Int) - (k : Int)).toNat = i - k by omega, Int.mul_comm]
  · by_cases c : i < k
    · rw [if_pos c]
    · exfalso; omega
  · omega
theorem timesL_len (ns ms : List Int) : (timesL ns ms).length = if ns = [] then 0 else ns.length + ms.length - 1 := by simp [timesL]
theorem timesL_getD (ns ms : List Int) (h : ns ≠ []) (i : Nat) (hi : i < ns.length + ms.length - 1) : (timesL ns ms).getD i 0 = timesAt ns ms (i : Int) := by
  unfold timesL
  rw [if_neg h, List.getD_eq_getElem?_getD, List.getElem?_map, List.getElem?_range hi]
  rfl
/-- the product divides out -/
theorem zx_times {ns ms : List Int} (h : InOk ns ms) : zx (timesL ns ms) ms = some ns := by
  have hm := h.lb0
  by_cases hn : ns = []
  · subst hn
    have e : timesL [] ms = [] := rfl
    rw [e]
    have := zx_of_conv (a := []) (b := ms) (c := []) hm h.lead (by simp; omega) (by intro i _; rfl)
    simpa [trim] using this
  · have hl : 0 < ns.length := List.length_pos_iff.mpr hn
    rw [zx_of_conv (a := ns) hm h.lead (by rw [timesL_len, if_neg hn]; omega) (fun i hi => by rw [timesL_getD ns ms hn i hi, timesAt_conv ns ms i hm hi]), trim_of_trimmed h.ta]
end
-- WholeMath
section
open PySem PySem.W PySem.Spec PySem.Calls PyProof.Rows
theorem mul_small {x y : Int} (hx : -6 ≤ x ∧ x ≤ 6) (hy : -4 ≤ y ∧ y ≤ 4) : -24 ≤ y * x ∧ y * x ≤ 24 := by
  obtain ⟨h1, h2⟩ := hy
  have : y = -4 ∨ y = -3 ∨ y = -2 ∨ y = -1 ∨ y = 0 ∨ y = 1 ∨ y = 2 ∨ y = 3 ∨ y = 4 := by omega
  rcases this with h | h | h | h | h | h | h | h | h <;> subst h <;> omega
theorem convN_bound {a : Nat → Int} {b : List Int} (ha : ∀ i, -6 ≤ a i ∧ a i ≤ 6) (hb : Bnd b 4) (i : Nat) : ∀ n : Nat, -(24 * n : Int) ≤ convN a b n i ∧ convN a b n i ≤ 24 * n
  | 0 => by simp [convN]
  | n + 1 => by
    have ih := convN_bound ha hb i n
    rw [convN]
    split
    · omega
    · have hy := bnd_getD hb (i - n)
      have := mul_small (ha n) (y := b.getD (i - n) 0) (by omega)
      omega
structure TopOk (a b : List Int) : Prop where
  la : a.length ≤ 5
  ba : Bnd a 6
  ta : Trimmed a
  lb : b.length ≤ 4
  lb0 : 0 < b.length
  bb : Bnd b 4
  lead : 1 ≤ b.getLastD 0
theorem TopOk.inOk {a b : List Int} (h : TopOk a b) : InOk a b where
  la := by have := h.la; omega
  lb := h.lb
  lb0 := h.lb0
  ba := fun y hy => by have := h.ba y hy; omega
  bb := h.bb
  ta := h.ta
  lead := h.lead
theorem whole_len {a b : List Int} (h : TopOk a b) : (timesL a b).length ≤ 8 := by
  rw [timesL_len]
  have := h.la; have := h.lb
  split <;> omega
theorem whole_bnd {a b : List Int} (h : TopOk a b) : ∀ y ∈ timesL a b, -120 ≤ y ∧ y ≤ 120 := by
  intro y hy
  obtain ⟨i, hi, rfl⟩ := List.getElem_of_mem hy
  have hn : a ≠ [] := by rintro rfl; exact absurd hi (Nat.not_lt_zero _)
  have hi' : i < a.length + b.length - 1 := by rw [timesL_len, if_neg hn] at hi; exact hi
  have e : (timesL a b)[i] = convN (fun k => a.getD k 0) b a.length i := by
    rw [← timesAt_conv a b i h.lb0 hi', ← timesL_getD a b hn i hi', List.getD_eq_getElem?_getD, List.getElem?_eq_getElem hi]; rfl
  rw [e]
  have := convN_bound (a := fun k => a.getD k 0) (fun k => bnd_getD h.ba k) h.bb i a.length
  have := h.la
  omega
theorem whole_trimmed {a b : List Int} (h : TopOk a b) : Trimmed (timesL a b) := by
  by_cases hn : a = []
  · subst hn; exact .inl rfl
  · have h0 : 0 < a.length := List.length_pos_iff.mpr hn
    have hm := h.lb0
    right
    have hl : (timesL a b).length = a.length + b.length - 1 := by rw [timesL_len, if_neg hn]
    rw [lastD_getD, hl, timesL_getD a b hn _ (by omega), timesAt_conv a b _ hm (by omega)]
    obtain ⟨n, hn1⟩ : ∃ n, a.length = n + 1 := ⟨a.length - 1, by omega⟩
    rw [hn1, convN, convN_big n _ (by omega), if_neg (by omega)]
    have e1 : n + 1 + b.length - 1 - 1 - n = b.length - 1 := by omega
    rw [e1, ← lastD_getD]
    have ht : a.getD n 0 ≠ 0 := by
      rcases h.ta with t | t
      · exact absurd t hn
      · rw [lastD_getD, hn1] at t; exact t
    have := h.lead
    intro q
    rw [Int.zero_add] at q
    rcases Int.mul_eq_zero.mp q with q | q
    · omega
    · exact ht q
theorem whole_inOk {a b : List Int} (h : TopOk a b) : InOk (timesL a b) b where
  la := whole_len h
  lb := h.lb
  lb0 := h.lb0
  ba := fun y hy => by have := whole_bnd h y hy; omega
  bb := h.bb
  ta := whole_trimmed h
  lead := h.lead
theorem bumped_inOk {a b : List Int} {i : Nat} {x : Int} (h : TopOk a b) (h0 : 0 ≤ x) (h1 : x ≤ 2) : InOk (trim ((timesL a b).set i ((timesL a b).getD i 0 + x))) b where
  la := by have := whole_len h; have := trim_length_le ((timesL a b).set i ((timesL a b).getD i 0 + x)); rw [List.length_set] at this; omega
  lb := h.lb
  lb0 := h.lb0
  ba := fun y hy => by
    have hb : Bnd (timesL a b) 120 := fun z hz => by have := whole_bnd h z hz; omega
    rcases List.mem_or_eq_of_mem_set (trim_mem hy) with q | q
    · have := hb y q; omega
    · have := bnd_getD hb i; omega
  bb := h.bb
  ta := trim_trimmed _
  lead := h.lead
end
-- left
section
open PySem PySem.W PySem.Spec PySem.Calls PyProof.Rows
set_option maxRecDepth 100000
abbrev tupO (p : Int × Int) (t u : Tok) : Obj := { cls := .type "tuple", data := .seq (List.toArray [.int p.1 t, .int p.2 u]) }
inductive TupsIn (tl : List (Addr × Obj)) : List Value → List (Int × Int) → Prop
  | nil : TupsIn tl [] []
  | cons {a : Addr} {p : Int × Int} {t u : Tok} {vs : List Value} {ps : List (Int × Int)} : (a, tupO p t u) ∈ tl → TupsIn tl vs ps → TupsIn tl (.ref a :: vs) (p :: ps)
theorem TupsIn.mono {tl tl' : List (Addr × Obj)} {vs : List Value} {ps : List (Int × Int)} (h : TupsIn tl vs ps) (k : ∀ q ∈ tl, q ∈ tl') : TupsIn tl' vs ps := by
  induction h with
  | nil => exact .nil
  | cons m _ ih => exact .cons (k _ m) ih
theorem TupsIn.append {tl : List (Addr × Obj)} {vs us : List Value} {ps qs : List (Int × Int)} (h : TupsIn tl vs ps) (h2 : TupsIn tl us qs) : TupsIn tl (vs ++ us) (ps ++ qs) := by
  induction h with
  | nil => exact h2
  | cons m _ ih => exact .cons m ih
theorem TupsIn.length {tl : List (Addr × Obj)} {vs : List Value} {ps : List (Int × Int)} (h : TupsIn tl vs ps) : vs.length = ps.length := by
  induction h with
  | nil => rfl
  | cons _ _ ih => simp [ih]
theorem TupsIn.at {tl : List (Addr × Obj)} {vs : List Value} {ps : List (Int × Int)} (h : TupsIn tl vs ps) : ∀ (i : Nat) {v : Value}, vs[i]? = some v → ∃ a p t u, v = .ref a ∧ ps[i]? = some p ∧ (a, tupO p t u) ∈ tl := by
  induction h with
  | nil => intro i v hv; simp at hv
  | cons m _ ih =>
    intro i v hv
    cases i with
    | zero => simp at hv; exact ⟨_, _, _, _, hv.symm, rfl, m⟩
    | succ i =>
      rw [List.getElem?_cons_succ] at hv
      obtain ⟨a, p, t, u, e1, e2, e3⟩ := ih i hv
      exact ⟨a, p, t, u, e1, by rw [List.getElem?_cons_succ]; exact e2, e3⟩
theorem comp_invL {prog : Program} {w : World} {A : Around} {h₀ : Heap} {L : Addr} {m : Str → Option Value} {env : Env} {elt : Expr} {x : Str} {scope : Scope} {cl : List (Str × Addr)} {s : Shared} {S : List (Addr × Obj) → Prop} {P : Nat → Value → Prop} {Fin : List Value → List (Addr × Obj) → Prop} {news : List (Addr × Obj)}
    {Inv : List Value → List (Addr × Obj) → Prop} (n : Nat) (h0 : Inv [] news)
    (turn : ∀ i ys news₁ v I oI C oC D m₂ h tk (E' : Value → Shared → Prop), i < n → ys.length = i → P i v → Inv ys news₁ → LCg.NsObj oC m₂ → m₂ x = some v → Fr h₀ L h m → News h₀ L h ((I, oI) :: (C, oC) :: (D, LCg.lst ys) :: news₁) → LCg.Off3 I C D news₁ → ((@Ne Nat I C) ∧ (@Ne Nat I D) ∧ (@Ne Nat C D)) →
      wpAny (model prog w) A (eval elt (compEnvC scope cl C env)) (LCg.CompEnd h₀ L m { s with heap := h, toks := tk } I oI C oC D (LCg.lst ys) S (fun y news' => Inv (ys ++ [y]) news')) E' { s with heap := h, toks := tk })
    (fin : ∀ ys news₁, ys.length = n → Inv ys news₁ → Fin ys news₁) : LCg.CompRest prog w A h₀ L m env elt x scope cl s S P Fin n 0 [] news := by
  have key : ∀ (j i : Nat) (ys : List Value) (nw : List (Addr × Obj)), i + j = n → ys.length = i → Inv ys nw → LCg.CompRest prog w A h₀ L m env elt x scope cl s S P Fin j i ys nw := by
    intro j
    induction j with
    | zero => intro i ys nw hi hy hv; exact LCg.CompRest.zero (fin ys nw (by omega) hv)
    | succ j ih =>
      intro i ys nw hi hy hv
      refine LCg.CompRest.succ ?_
      intro v I oI C oC D m₂ h tk E' hp hC hx F N off ne
      refine wpAny_mono (turn i ys nw v I oI C oC D m₂ h tk E' (by omega) hy hp hv hC hx F N off ne) (fun y s₂ hq => ?_) fun _ _ e => e
      obtain ⟨h', tk', nw', e, F', N', off', hS, hi'⟩ := hq
      exact ⟨h', tk', nw', e, F', N', off', hS, ih (i + 1) _ _ (by omega) (by simp [hy]) hi'⟩
  exact key n 0 [] news (by omega) rfl h0
theorem comp_rot {x a b c : Addr × Obj} {nw : List (Addr × Obj)} : ∀ p ∈ a :: b :: c :: x :: nw, p ∈ x :: a :: b :: c :: nw := by
  intro p hp
  simp only [List.mem_cons] at hp ⊢
  rcases hp with h | h | h | h | h <;> simp [h]
theorem comp_off {t I C D : Addr} {o oI oC oD : Obj} {nw : List (Addr × Obj)} (l1 : ∀ p ∈ (I, oI) :: (C, oC) :: (D, oD) :: nw, p.1 < t) (off : LCg.Off3 I C D nw) : LCg.Off3 I C D ((t, o) :: nw) :=
  ⟨⟨Ne.symm (Nat.ne_of_lt (l1 _ (.head _))), Ne.symm (Nat.ne_of_lt (l1 _ (.tail _ (.head _)))), Ne.symm (Nat.ne_of_lt (l1 _ (.tail _ (.tail _ (.head _)))))⟩, off⟩
def LeftC (ns : List Int) (ys : List Value) (news : List (Addr × Obj)) : Prop := TupsIn news ys ((ns.take ys.length).map fun n => (n, 1))
structure LSt where
  r : Addr
  rv : List Value
  rn : Nat
  rs : List Fr2
  q : Addr
  qv : List Value
  qn : Nat
  qs : List Fr2
  tl : List (Addr × Obj)
abbrev LSt.led (c : LSt) : List (Addr × Obj) := (c.q, listOf c.qv.toArray c.qn) :: (c.r, listOf c.rv.toArray c.rn) :: c.tl
abbrev LSt.ps (c : LSt) : List (Str × Value) := [(Str.ofString "rest", .ref c.r), (Str.ofString "quotient", .ref c.q)]
abbrev LSt.facts (c : LSt) : Prop := TupsIn c.tl c.rv c.rs ∧ TupsIn c.tl c.qv c.qs
abbrev LSt.inv (ns ms : List Int) (c : LSt) : Prop := LInv ns ms c.rs c.qs
abbrev LSt.meas (c : LSt) : Nat := c.rs.length
abbrev leftStored : List Str := [Str.ofString "over", Str.ofString "under", Str.ofString "shift", Str.ofString "found", Str.ofString "at", Str.ofString "pair", Str.ofString "less"]
local macro_rules | `(tactic| walk_at "call builtin:len") => `(tactic| (k_here; (with_reducible show wpAny _ _ (call (Value.builtin "len") [Value.ref _]) _ _ _); k_dflt (refine' kst_len ?k1 ?k2 ?k3 ?k4 ?_; (case k1 => k_asm); (case k2 => k_mem); (case k3 => exact TupsIn.length (by assumption)); (case k4 => omega)); k_whole))
theorem leftC_all {ns : List Int} {ys : List Value} {nw : List (Addr × Obj)} (h : LeftC ns ys nw) (hl : ys.length = ns.length) : TupsIn nw ys (ns.map fun n => (n, 1)) := by
  unfold LeftC at h
  rwa [hl, List.take_length] at h
section
variable {prog : Program} {w : World} {A : Around} {E : Value → Shared → Prop} {s : Shared}
theorem tup_last {value slice : Expr} {l : Addr} {vs : List Value} {tl : List (Addr × Obj)} {ps : List Fr2} {u : Tok} {Q : Value → Shared → Prop} (hl : s.heap.IsList l vs.toArray) (hT : TupsIn tl vs ps) (h0 : 0 < ps.length)
    (h : ∀ a t u, (a, tupO (fgetD ps (ps.length - 1)) t u) ∈ tl → Q (.ref a) s)
    (hs : subscripted slice false (.ref l) (.int (-1) u) = operate [.ref l, .int (-1) u] (getItem (.ref l) (.int (-1) u)) := by with_unfolding_all rfl) (hg : ∀ r, letTemporaryGo value (.ref l) r = pure () := by intro _; with_unfolding_all rfl) :
    wpAny (model prog w) A (subscriptTail value slice (.ref l) (.int (-1) u)) Q E s := by
  have hsz : vs.toArray.size = ps.length := by simp [hT.length]
  have hlt : ps.length - 1 < vs.length := by rw [hT.length]; omega
  obtain ⟨a, p, t, u', e1, e2, e3⟩ := hT.at (ps.length - 1) (List.getElem?_eq_getElem hlt)
  have hp : fgetD ps (ps.length - 1) = p := by unfold fgetD; rw [List.getD_eq_getElem?_getD, e2]; rfl
  have hx : vs.toArray[(-1 + (ps.length : Int)).toNat]? = some (.ref a) := by
    have : (-1 + (ps.length : Int)).toNat = ps.length - 1 := by omega
    rw [this, List.getElem?_toArray, List.getElem?_eq_getElem hlt, e1]
  exact subscriptTail_builtin hl.typeIs slot_list_getitem.lookup (wpAny_getItem_list_neg hl (by decide) (by rw [hsz]; omega) (by decide) (by rw [hsz]; exact hx) (h a t u' (hp ▸ e3))) hs hg
end
theorem linv_mulok {a b : List Int} {rs qs : List Fr2} (h : LInv a b rs qs) (_ : 0 < rs.length) : IntMulOk (fgetD rs (rs.length - 1)).2 (b.getD (-1 + (b.length : Int)).toNat 0) := by
  have := linv_lead h
  rw [last_int b h.inp.lb0]
  exact PySem.IntMulOk.of_right (PySem.intBits_le_64 (by omega) (by omega))
section
variable {prog : Program} {w : World} {A : Around} {E : Value → Shared → Prop} {s : Shared} {h₀ : Heap} {L : Addr} {m : Str → Option Value} {news : List (Addr × Obj)}
theorem add_listsK {l b : Addr} {vs ws : List Value} {Q : Value → Shared → Prop} (F : Fr h₀ L s.heap m) (N : News h₀ L s.heap news) (hl : s.heap.IsList l vs.toArray) (hb : s.heap.IsList b ws.toArray)
    (h : ∀ D h', Fr h₀ L h' m → News h₀ L h' ((D, listOf (vs ++ ws).toArray 0) :: news) → (∀ p ∈ news, p.1 < D) → Q (.ref D) { s with heap := h' }) (hsz : vs.length + ws.length ≤ sizeLine) :
    wpAny (model prog w) A (binaryOp .Add (.ref l) (.ref b)) Q E s :=
  add_lists (hsz := hsz) F N hl hb fun h' F' N' => h _ h' F' N' fun p hp => Heap.lt_size (N p hp).1
end
local macro_rules | `(tactic| walk_at "binaryOp Add ref ref") => `(tactic| (k_here; (with_reducible show wpAny _ _ (binaryOp _ (Value.ref _) (Value.ref _)) _ _ _); k_dflt (refine' add_listsK (vs := [Value.ref _]) ?F ?N ?a ?b ?_ ?z; (case F => k_asm); (case N => k_asm); (case a => exact News.isList (by k_asm) (by k_mem)); (case b => exact News.isList (by k_asm) (by k_mem)); (case z => (rename ∀ (v : Value), _ ≤ _ => hz9'; exact hz9' _))); intro D' h' F' N' l1; (try k_sweep)))
theorem linv_rsz {a b : List Int} {rs qs : List Fr2} {tl : List (Addr × Obj)} {rv : List Value} (h : LInv a b rs qs) (hT : TupsIn tl rv rs) : rv.toArray.size ≤ sizeLine := by
  have := h.len
  rw [PySem.sizeLine_eq, List.size_toArray, hT.length]; omega
theorem linv_qsz {a b : List Int} {rs qs : List Fr2} {tl : List (Addr × Obj)} {qv : List Value} {v : Value} (h : LInv a b rs qs) (hT : TupsIn tl qv qs) : [v].length + qv.length ≤ sizeLine := by
  have := h.ql
  rw [PySem.sizeLine_eq, hT.length, List.length_singleton]; omega
theorem slice_m1 {vs : List Value} {k : Nat} (h : vs.length = k) (h0 : 0 < k) : (slicePick vs.toArray none (some (-1)) none).toList = vs.take (k - 1) := by
  have e : sliceBounds none (some (-1)) none vs.toArray.size = (((0 : Nat) : Int), ((k - 1 : Nat) : Int), 1) := by
    simp only [sliceBounds, Option.getD_none, show (1 : Int) > 0 by decide, if_true, show ((-1 : Int) < 0) by decide, List.size_toArray, h]
    congr 1
    congr 1
    omega
  rw [kmk_pick_nat _ e]
  show (vs.drop 0).take (k - 1 - 0) = _
  rw [List.drop_zero, Nat.sub_zero]
local macro_rules | `(tactic| walk_at "subscriptTail Name Slice ref ref") => `(tactic| (k_here; (with_reducible show wpAny _ _ (subscriptTail _ (PySem.Expr.Slice _ _ none _) (Value.ref _) (Value.ref _)) _ _ _); k_dflt (refine' kmk_slice_lit ?F ?N ?l ?p ?q ?e ?_ ?s ?t ?z; (case F => k_asm); (case N => k_asm); (case l => exact News.isList (by k_asm) (by k_mem)); (case p => kmk_part); (case q => kmk_part); (case e => exact slice_m1 (TupsIn.length (by assumption)) (by assumption)); (case s => with_unfolding_all rfl); (case t => kmk_pure); (case z => assumption)); intro D' h' F' N' l1; (try k_sweep)))
local macro_rules | `(tactic| k_mem) => `(tactic| assumption)
local macro_rules | `(tactic| walk_at "subscriptTail Name UnaryOp ref int") => `(tactic| (k_here; (with_reducible show wpAny _ _ (subscriptTail _ _ (Value.ref _) (Value.int _ _)) _ _ _); (with_unfolding_all refine' tup_last ?k1 ?k2 ?k3 ?_; (case k1 => exact News.isList (by k_asm) (by k_mem)); (case k2 => assumption); (case k3 => assumption); k_whole); intro a' t' u' m'))
local macro_rules | `(tactic| walk_at "newTuple") => `(tactic| (k_here; k_dflt (refine' kup_newTuple ?F ?N ?_ ?z; (case F => k_asm); (case N => k_asm); (case z => kmk_size)); intro D' h' F' N' l1; (try k_sweep)))
theorem leftC_snoc {ns : List Int} {ys : List Value} {nw : List (Addr × Obj)} {t : Addr} {j : Nat} {k : Int} {t2 u2 : Tok} (h : LeftC ns ys nw) (hj : ys.length = j) (hk : ns[j]? = some k) : LeftC ns (ys ++ [.ref t]) ((t, tupO (k, 1) t2 u2) :: nw) := by
  unfold LeftC at *
  rw [List.length_append, List.length_singleton, hj, List.take_add_one, hk, List.map_append]
  rw [hj] at h
  exact (h.mono fun q hq => .tail _ hq).append (.cons (.head _) .nil)
abbrev lessStored : List Str := [Str.ofString "at", Str.ofString "pair", Str.ofString "less"]
def LeftJ (fd qa : Addr) (qv : List Value) (tl0 : List (Addr × Obj)) (m0 : Str → Option Value) (ms : List Int) (crs : List Fr2) (i : Nat) (m : Str → Option Value) (led : List (Addr × Obj)) : Prop :=
  ∃ fv fn tl, ∃ u : Str → Option Value, led = (fd, listOf (List.toArray fv) fn) :: (qa, listOf (List.toArray qv) 0) :: tl ∧ fd ≠ qa ∧ (∀ p ∈ tl, p.1 ≠ fd) ∧ (∀ p ∈ tl0, p ∈ tl) ∧ TupsIn tl fv ((List.range i).map (fstep ms (crs.length - ms.length) (fgetD crs))) ∧ m = fun z => if lessStored.contains z then u z else m0 z
theorem less_m {m' m0 : Str → Option Value} (h : ∀ z, lessStored.contains z = false → m' z = m0 z) : m' = fun z => if lessStored.contains z then m' z else m0 z := by
  funext z
  cases e : lessStored.contains z with
  | true => rw [if_pos rfl]
  | false => rw [if_neg (by decide)]; exact h z e
def LeftOut (ns ms : List Int) (h h' : Heap) (v : Value) : Prop :=
  ∃ T r q rv rn qv qn rs qs tl, v = .ref T ∧ LInv ns ms rs qs ∧ rs.length < ms.length ∧ TupsIn tl rv rs ∧ TupsIn tl qv qs ∧
    ∀ p ∈ (T, ({ cls := .type "tuple", data := .seq (List.toArray [.ref r, .ref q]) } : Obj)) :: (q, listOf (List.toArray qv) qn) :: (r, listOf (List.toArray rv) rn) :: tl, h'.get? p.1 = some p.2 ∧ h.get? p.1 = none
theorem left_item {tl : List (Addr × Obj)} {rv : List Value} {rs : List Fr2} {i : Nat} {v : Value} (hT : TupsIn tl rv rs) (hv : (List.take (rs.length - 1) rv)[i]? = some v) :
    i < rs.length - 1 ∧ ∃ a p t u, v = .ref a ∧ fgetD rs i = p ∧ (a, tupO p t u) ∈ tl := by
  rw [List.getElem?_take] at hv
  split at hv
  · rename_i hlt
    obtain ⟨a, p, t, u, e1, e2, e3⟩ := hT.at i hv
    exact ⟨hlt, a, p, t, u, e1, by unfold fgetD; rw [List.getD_eq_getElem?_getD, e2]; rfl, e3⟩
  · cases hv
theorem left_snoc {tl : List (Addr × Obj)} {fv : List Value} {f : Nat → Fr2} {i : Nat} {T : Addr} {p : Fr2} {t u : Tok} (hT : TupsIn tl fv ((List.range i).map f)) (e : f i = p) :
    TupsIn ((T, tupO p t u) :: tl) (fv ++ [.ref T]) ((List.range (i + 1)).map f) := by
  rw [List.range_succ, List.map_append, List.map_singleton, e]
  exact (hT.mono fun q hq => .tail _ hq).append (.cons (.head _) .nil)
theorem left_turnEnd {e it D fd qD T : Addr} {oe oi oD oqD oT : Obj} {fv : List Value} {fn : Nat} {tl : List (Addr × Obj)} (l8 : ∀ p ∈ (e, oe) :: (it, oi) :: (D, oD) :: (fd, listOf (List.toArray fv) fn) :: (qD, oqD) :: tl, p.1 < T)
    (hoff : ∀ p ∈ (fd, listOf (List.toArray fv) fn) :: (qD, oqD) :: tl, p.1 ≠ e ∧ p.1 ≠ it ∧ p.1 ≠ D) (hfq : fd ≠ qD) (hft : ∀ p ∈ tl, p.1 ≠ fd) :
    (∀ p ∈ [(T, oT), (e, oe), (it, oi), (D, oD)], p.1 ≠ fd) ∧ (∀ p ∈ (qD, oqD) :: tl, p.1 ≠ fd) ∧
    (∀ p ∈ [(e, oe), (it, oi), (D, oD)] ++ ((fd, listOf (List.toArray (fv ++ [.ref T])) (fn + 1)) :: (qD, oqD) :: (T, oT) :: tl), p ∈ [(T, oT), (e, oe), (it, oi), (D, oD)] ++ (fd, listOf (List.toArray (fv ++ [.ref T])) (fn + 1)) :: (qD, oqD) :: tl) ∧
    (∀ p ∈ (fd, listOf (List.toArray (fv ++ [.ref T])) (fn + 1)) :: (qD, oqD) :: (T, oT) :: tl, ∀ q ∈ [(e, oe), (it, oi), (D, oD)], p.1 ≠ q.1) ∧ ∀ p ∈ (T, oT) :: tl, p.1 ≠ fd := by
  have f1 := hoff (fd, listOf (List.toArray fv) fn) (.head _)
  have f2 := hoff (qD, oqD) (.tail _ (.head _))
  have f3 := fun p hp => hoff p (.tail _ (.tail _ hp))
  have tne : ∀ p ∈ (e, oe) :: (it, oi) :: (D, oD) :: (fd, listOf (List.toArray fv) fn) :: (qD, oqD) :: tl, T ≠ p.1 := fun p hp => Nat.ne_of_gt (l8 p hp)
  have t1 := tne (e, oe) (by simp)
  have t2 := tne (it, oi) (by simp)
  have t3 := tne (D, oD) (by simp)
  have t4 := tne (fd, listOf (List.toArray fv) fn) (by simp)
  have q3 : ∀ p : Addr × Obj, (p.1 ≠ e ∧ p.1 ≠ it ∧ p.1 ≠ D) → ∀ q ∈ [(e, oe), (it, oi), (D, oD)], p.1 ≠ q.1 := fun p h q hq => by
    simp only [List.mem_cons, List.not_mem_nil, or_false] at hq
    rcases hq with rfl | rfl | rfl
    · exact h.1
    · exact h.2.1
    · exact h.2.2
  refine ⟨fun p hp => ?_, fun p hp => ?_, fun p hp => ?_, fun p hp => q3 p ?_, fun p hp => ?_⟩
  · simp only [List.mem_cons, List.not_mem_nil, or_false] at hp
    rcases hp with rfl | rfl | rfl | rfl
    · exact t4
    · exact f1.1.symm
    · exact f1.2.1.symm
    · exact f1.2.2.symm
  · rcases List.mem_cons.mp hp with rfl | hp
    · exact hfq.symm
    · exact hft p hp
  · simp only [List.mem_cons, List.cons_append, List.nil_append] at hp ⊢
    rcases hp with h | h | h | h | h | h | h <;> simp [h]
  · simp only [List.mem_cons] at hp
    rcases hp with rfl | rfl | rfl | hp
    · exact f1
    · exact f2
    · exact ⟨t1, t2, t3⟩
    · exact f3 p hp
  · rcases List.mem_cons.mp hp with rfl | hp
    · exact t4
    · exact hft p hp
theorem left_rest {ctl tl : List (Addr × Obj)} {crv fv : List Value} {crs : List Fr2} {f : Nat → Fr2} (h : TupsIn ctl crv crs) (hT : TupsIn tl fv ((List.range (List.take (crs.length - 1) crv).length).map f)) :
    TupsIn tl fv ((List.range (crs.length - 1)).map f) := by
  have e : (List.take (crs.length - 1) crv).length = crs.length - 1 := by rw [List.length_take, h.length]; omega
  rwa [e] at hT
theorem left_quot {ctl tl : List (Addr × Obj)} {T : Addr} {t u : Tok} {p q : Fr2} {cqv : List Value} {cqs : List Fr2} (hsub : ∀ x ∈ (T, tupO p t u) :: ctl, x ∈ tl) (h : TupsIn ctl cqv cqs) (e : q = p) : TupsIn tl (.ref T :: cqv) (q :: cqs) := by
  subst e
  exact .cons (hsub _ (.head _)) (h.mono fun x hx => hsub x (.tail _ hx))
theorem allLt_mem {d : Addr} : ∀ {l : List (Addr × Obj)}, AllLt d l → ∀ p ∈ l, p.1 < d
  | [], _, p, hp => nomatch hp
  | _ :: _, h, p, hp => by
    rcases List.mem_cons.mp hp with rfl | hp
    · exact h.1
    · exact allLt_mem h.2 p hp
theorem left_start {h₀ h : Heap} {L D fd qD l1 t d2 cq cr : Addr} {oD ofd oqD ol1 ot od2 oq or : Obj} {ctl : List (Addr × Obj)} (N : News h₀ L h ((D, oD) :: (fd, ofd) :: (qD, oqD) :: (l1, ol1) :: (t, ot) :: (d2, od2) :: (cq, oq) :: (cr, or) :: ctl))
    (lq : @LT.lt Nat _ qD fd ∧ @LT.lt Nat _ l1 fd ∧ @LT.lt Nat _ t fd ∧ @LT.lt Nat _ d2 fd ∧ @LT.lt Nat _ cq fd ∧ @LT.lt Nat _ cr fd ∧ AllLt fd ctl) (lD : ∀ p ∈ (fd, ofd) :: (qD, oqD) :: (l1, ol1) :: (t, ot) :: (d2, od2) :: (cq, oq) :: (cr, or) :: ctl, p.1 < D) :
    News h₀ L h ((fd, ofd) :: (qD, oqD) :: (t, ot) :: ctl) ∧ News h₀ L h [(D, oD)] ∧ (∀ p ∈ (fd, ofd) :: (qD, oqD) :: (t, ot) :: ctl, p.1 ≠ D) ∧ fd ≠ qD ∧ ∀ p ∈ (t, ot) :: ctl, p.1 ≠ fd := by
  have hsub : ∀ p ∈ (fd, ofd) :: (qD, oqD) :: (t, ot) :: ctl, p ∈ (fd, ofd) :: (qD, oqD) :: (l1, ol1) :: (t, ot) :: (d2, od2) :: (cq, oq) :: (cr, or) :: ctl := fun p hp => by
    simp only [List.mem_cons] at hp ⊢
    rcases hp with h | h | h | h <;> simp [h]
  refine ⟨fun p hp => N p (.tail _ (hsub p hp)), fun p hp => N p (by rw [List.mem_singleton.mp hp]; exact .head _), fun p hp => Nat.ne_of_lt (lD p (hsub p hp)), fun e => ?_, fun p hp => ?_⟩
  · have z := lq.1; rw [e] at z; exact Nat.lt_irrefl _ z
  · rcases List.mem_cons.mp hp with rfl | hp
    · exact Nat.ne_of_lt lq.2.2.1
    · exact Nat.ne_of_lt (allLt_mem lq.2.2.2.2.2.2 p hp)
set_option maxHeartbeats 2000000 in
theorem left_ok (w : World) (mean : ExcName → Option Value) (mg mb : Str → Option Value) (l l2 : Addr) (ns ms : List Int) (hin : InOk ns ms) :
    Spec w mean mg mb 132 1 [.ref l, .ref l2] (fun h => LAt h l ns ∧ LAt h l2 ms) (LeftOut ns ms) := by
  have hn : ns.length ≤ 20 := by have := hin.la; omega
  have hm : ms.length ≤ 20 := by have := hin.lb; omega
  unfold Spec
  k_fill
  w_on
  w_strict (
    intro dp un gd cn cs a ccd cl outer A₀ base h₀ L m s Q E B F X T hk hd hu ha hret
    obtain ⟨⟨vs, hl, hi⟩, vs2, hl2, hi2⟩ := ha
    have hvl := hi.length
    refine wpAny_call ?_
    k_dflt (refine' code_pure (binds := [(Str.ofString "top", .ref l), (Str.ofString "bottom", .ref l2)]) ?k1 ?k2 ?k3 ?k5 ?kA ?kF ?kK ?k6 ?k7 ?k8 ?k9 ?kB ?_ ?c2 ?c3 ?c4 ?c5; (((case kA => exact rfl); (case kF => exact rfl); (case kK => assumption); (case k1 => k_asm); (case k2 => k_asm); (case k3 => k_asm); (case k5 => k_asm); (case k6 => k_is); (case k7 => k_is); (case k8 => ktr_room); (case k9 => exact BindsTo.of_eq rfl); (case c5 => decide); (case kB => exact locs rfl); (case c2 => exact rfl); (case c3 => exact rfl); (case c4 => exact rfl); k_whole; intro L' h' F' N' B' X' T'; (try dsimp only); (try k_fold))))
    (repeat' (first | ((fail_if_success (with_reducible show wpAny _ _ (exec (Stmt.While _ _ _ _) _) _ _ _)); (fail_if_success (with_reducible show wpAny _ _ (eval (Expr.ListComp _ _ _ _) _) _ _ _)); (fail_if_success (with_reducible show wpAny _ _ (call (Value.type "enumerate") _) _ _ _)); first | (k_unfold; (try dsimp only)) | (k_end; wrow_close) | walk1 | (dsimp only; walk1) | (leave1; walk_say "STEP leave1"; try dsimp only)) | fail "no step"))
    k_dflt (refine LCg.ListComp_U (F₀ := by k_asm) (by rfl) (by decide) (by rfl) (by decide) (by rfl) ?_)
    (repeat' (first | ((fail_if_success (with_reducible show wpAny _ _ (exec (Stmt.While _ _ _ _) _) _ _ _)); (fail_if_success (with_reducible show LCg.CompSrc _ _ _ _ _ _ _ _ _ _ _ _ _ _)); first | (k_unfold; (try dsimp only)) | (k_end; wrow_close) | walk1 | (dsimp only; walk1) | (leave1; walk_say "STEP leave1"; try dsimp only)) | fail "no step"))
    k_dflt (refine LCg.CompSrc.base (by rfl) (by k_asm) (by k_asm) hl (by rw [PySem.sizeLine_eq, List.size_toArray]; omega) ?_)
    intro g2'
    refine comp_invL (Inv := LeftC ns) _ .nil ?_ ?_
    · intro j ys nw v I oI C oC D m₂ h₂ tk₂ E' hj hyl hv hV hC hx F₂ N₂ off₂ ne₂
      obtain ⟨k, t2, rfl, hk2⟩ := IntsAre.at hi j v (by simpa using hv)
      (try k_unmd)
      (try k_fold)
      (repeat' (first | ((fail_if_success (with_reducible show wpAny _ _ (exec (Stmt.For _ _ _ _ _) _) _ _ _)); (fail_if_success (with_reducible show wpAny _ _ (call (Value.type "enumerate") _) _ _ _)); (fail_if_success (with_reducible show LCg.CompEnd _ _ _ _ _ _ _ _ _ _ _ _ _ _)); (fail_if_success (with_reducible show wpAny _ _ (exec (Stmt.While _ _ _ _) _) _ _ _)); (fail_if_success (with_reducible show wpAny _ _ (eval (Expr.ListComp _ _ _ _) _) _ _ _)); first | (k_unfold; (try dsimp only)) | (k_end; wrow_close) | walk1 | (dsimp only; walk1) | (leave1; walk_say "STEP leave1"; try dsimp only)) | fail "no step"))
      (rename News _ _ _ _ => N9)
      (rename Fr _ _ _ _ => F9)
      (rename ∀ (p : Addr × Obj), _ → _ => l9)
      exact LCg.CompEnd.intro F9 N9 ((_, tupO (k, 1) _ _) :: nw) comp_rot (comp_off l9 off₂) (Or.inl hl) (leftC_snoc hV hyl hk2)
    · intro ys nw hlen hV
      unfold LCg.FinE
      intro D' h3 tk3 F3 N3 o3
      (try k_unmd)
      (try dsimp only)
      (try k_fold)
      (repeat' (first | ((fail_if_success (with_reducible show wpAny _ _ (exec (Stmt.For _ _ _ _ _) _) _ _ _)); (fail_if_success (with_reducible show wpAny _ _ (call (Value.type "enumerate") _) _ _ _)); (fail_if_success (with_reducible show LCg.CompEnd _ _ _ _ _ _ _ _ _ _ _ _ _ _)); (fail_if_success (with_reducible show wpAny _ _ (exec (Stmt.While _ _ _ _) _) _ _ _)); (fail_if_success (with_reducible show wpAny _ _ (eval (Expr.ListComp _ _ _ _) _) _ _ _)); first | (k_unfold; (try dsimp only)) | (k_end; wrow_close) | walk1 | (dsimp only; walk1) | (leave1; walk_say "STEP leave1"; try dsimp only)) | fail "no step"))
      (rename News _ _ _ _ => N9)
      (rename Fr _ _ _ _ => F9)
      have hT := leftC_all hV (by rw [hlen, List.size_toArray]; exact hvl)
      (with_unfolding_all refine' ksw_while (σ := LSt) LSt.led LSt.ps LSt.facts leftStored (LSt.inv ns ms) LSt.meas ⟨D', ys, _, ns.map fun n => (n, 1), _, [], _, [], nw⟩ F9 (fun p hp => N9 p (.tail _ hp)) ?kf ?kk ?kp ?kt)
      (case kk => k_dflt (exact List.forall_mem_cons.mpr ⟨by with_unfolding_all rfl, List.forall_mem_cons.mpr ⟨by with_unfolding_all rfl, List.forall_mem_nil _⟩⟩))
      (case kf => exact ⟨hT, .nil⟩)
      (case kp => exact linv_start hin)
      clear F9 N9
      intro c' u' h' tk' hf' hp' F' N'
      obtain ⟨cr, crv, crn, crs, cq, cqv, cqn, cqs, ctl⟩ := c'
      dsimp only [LSt.led, LSt.ps, LSt.facts, LSt.inv, kstB] at hf' hp' F' N'
      obtain ⟨hfr, hfq⟩ := hf'
      have hcl := hp'.len
      have hms := hin.lb0
      (try k_unmd)
      k_fold
      (repeat' (first | ((fail_if_success (with_reducible show wpAny _ _ (exec (Stmt.For _ _ _ _ _) _) _ _ _)); (fail_if_success (with_reducible show wpAny _ _ (call (Value.type "enumerate") _) _ _ _)); (fail_if_success (with_reducible show LCg.CompEnd _ _ _ _ _ _ _ _ _ _ _ _ _ _)); (fail_if_success (with_reducible show wpAny _ _ (exec (Stmt.While _ _ _ _) _) _ _ _)); (fail_if_success (with_reducible show wpAny _ _ (eval (Expr.ListComp _ _ _ _) _) _ _ _)); first | (k_unfold; (try dsimp only)) | (k_end; wrow_close) | walk1 | (dsimp only; walk1) | (leave1; walk_say "STEP leave1"; try dsimp only)) | fail "no step"))
      · have hge : (ms.length : Int) ≤ (crs.length : Int) := by assumption
        have h0 : 0 < crs.length := by omega
        have hz1 := linv_lead hp'
        have hz2 := linv_mulok hp' h0
        have hz4 := linv_rsz hp' hfr
        have hz3 := fun v => linv_qsz (v := v) hp' hfq
        (repeat' (first | ((fail_if_success (with_reducible show wpAny _ _ (exec (Stmt.For _ _ _ _ _) _) _ _ _)); (fail_if_success (with_reducible show wpAny _ _ (call (Value.type "enumerate") _) _ _ _)); (fail_if_success (with_reducible show LCg.CompEnd _ _ _ _ _ _ _ _ _ _ _ _ _ _)); (fail_if_success (with_reducible show wpAny _ _ (exec (Stmt.While _ _ _ _) _) _ _ _)); (fail_if_success (with_reducible show wpAny _ _ (eval (Expr.ListComp _ _ _ _) _) _ _ _)); first | (k_unfold; (try dsimp only)) | (k_end; wrow_close) | walk1 | (dsimp only; walk1) | (leave1; walk_say "STEP leave1"; try dsimp only)) | fail "no step"))
        generalize hov : (fgetD crs (crs.length - 1)).fst = ov9 at *
        generalize hun : (fgetD crs (crs.length - 1)).snd * ms.getD (-1 + (ms.length : Int)).toNat 0 = un9 at *
        (rename (_ < _ ∧ _ < _ ∧ _ < _ ∧ _ < _ ∧ _ < _ ∧ _ < _ ∧ AllLt _ _) => lq9)
        k_dflt (refine for_iter ?_ ?hs)
        case hs => intro _; rfl
        (repeat' (first | ((fail_if_success (with_reducible show wpAny _ _ (exec (Stmt.For _ _ _ _ _) _) _ _ _)); (fail_if_success (with_reducible show wpAny _ _ (call (Value.type "enumerate") _) _ _ _)); (fail_if_success (with_reducible show LCg.CompEnd _ _ _ _ _ _ _ _ _ _ _ _ _ _)); (fail_if_success (with_reducible show wpAny _ _ (exec (Stmt.While _ _ _ _) _) _ _ _)); (fail_if_success (with_reducible show wpAny _ _ (eval (Expr.ListComp _ _ _ _) _) _ _ _)); first | (k_unfold; (try dsimp only)) | (k_end; wrow_close) | walk1 | (dsimp only; walk1) | (leave1; walk_say "STEP leave1"; try dsimp only)) | fail "no step"))
        (rename News _ _ _ _ => lN')
        (rename Fr _ _ _ _ => lF2)
        (rename ∀ (p : Addr × Obj), _ → _ => lD9)
        have hx9 := left_start lN' lq9 lD9
        k_dflt (refine' forEnum_ (LeftJ _ _ _ _ _ ms crs) (by rfl) (by rfl) (by rfl) lF2 hx9.1 hx9.2.1 hx9.2.2.1 ⟨[], 0, _, _, rfl, hx9.2.2.2.1, hx9.2.2.2.2, fun p hp => hp, .nil, (funext fun z => (ite_self _).symm)⟩ ?turn ?done)
        · intro i9 v9 t9 m₁ news₁ e9 oe9 it9 oi9 h₅ tk₅ hv9 hJ9 hoff9 F₅ N₅
          obtain ⟨fv, fn, tl9, u9, rfl, hfq9, hft9, hsub9, hT2, rfl⟩ := hJ9
          obtain ⟨hi9, ap, pp, t1, u1, rfl, rfl, hmem9⟩ := left_item hfr hv9
          have hmem2 := hsub9 _ (.tail _ hmem9)
          obtain ⟨q1, q2, q3, q4, q5, q6⟩ := linv_turn hp' hi9 hov hun
          have q2' := q2 ((i9 : Int) - ((crs.length : Int) - ms.length)).toNat
          have q4' := q4 ((i9 : Int) - ((crs.length : Int) - ms.length)).toNat
          have hfl9 := hT2.length
          rw [List.length_map, List.length_range] at hfl9
          clear q2 q4 hv9
          (try k_unmd)
          (try k_fold)
          (repeat' (first | ((fail_if_success (with_reducible show wpAny _ _ (call (Value.builtin "list.append") _) _ _ _)); first | (k_unfold; (try dsimp only)) | (k_end; wrow_close) | walk1 | (dsimp only; walk1) | (leave1; walk_say "STEP leave1"; try dsimp only)) | fail "no step"))
          all_goals (
            simp only [List.cons_append, List.nil_append]
            (try k_fold)
            (rename News _ _ _ _ => N8)
            (rename Fr _ _ _ _ => F8)
            (rename ∀ (p : Addr × Obj), _ → _ => l8)
            have hte := fun oT => left_turnEnd (oT := oT) l8 hoff9 hfq9 hft9
            k_dflt (refine append_own [_, _, _, _] _ F8 N8 (hte _).1 (hte (listOf #[] 0)).2.1 (by rw [PySem.sizeLine_eq, List.size_toArray, hfl9]; omega) ?_)
            intro h' F' N'
            (try dsimp only)
            (try k_fold)
            (repeat' (first | ((fail_if_success (with_reducible show wpAny _ _ (exec (Stmt.While _ _ _ _) _) _ _ _)); first | (k_unfold; (try dsimp only)) | (k_end; wrow_close) | walk1 | (dsimp only; walk1) | (leave1; walk_say "STEP leave1"; try dsimp only)) | fail "no step")))
          · (rename News _ _ _ _ => N7)
            (rename Fr _ _ _ _ => F7)
            refine turnEnd_ _ F7 N7 (hte _).2.2.1 (hte _).2.2.2.1 ⟨fv ++ [.ref _], fn + 1, (_, tupO _ _ _) :: tl9, _, rfl, hfq9, (hte _).2.2.2.2, fun p hp => .tail _ (hsub9 p hp), left_snoc hT2 (fstep_less hms (by omega) hov hun (by assumption)), less_m (by ((intro z h3; (simp only [List.contains_cons, List.contains_nil, Bool.or_false, Bool.or_eq_false_iff, beq_eq_false_iff_ne, ne_eq] at h3); simp [h3])))⟩

          · (rename News _ _ _ _ => N7)
            (rename Fr _ _ _ _ => F7)
            refine turnEnd_ _ F7 N7 (hte _).2.2.1 (hte _).2.2.2.1 ⟨fv ++ [.ref _], fn + 1, (_, tupO _ _ _) :: tl9, _, rfl, hfq9, (hte _).2.2.2.2, fun p hp => .tail _ (hsub9 p hp), left_snoc hT2 (fstep_zero hms (by omega) hov hun (by assumption)), less_m (by ((intro z h3; (simp only [List.contains_cons, List.contains_nil, Bool.or_false, Bool.or_eq_false_iff, beq_eq_false_iff_ne, ne_eq] at h3); simp [h3])))⟩

        · intro h4 tk4 m4 led4 hJ F4 N4
          obtain ⟨fv, fn, tl9, u9, rfl, hfq9, hft9, hsub9, hT2, rfl⟩ := hJ
          (try k_unmd)
          (try dsimp only)
          (try k_fold)
          (repeat' (first | ((fail_if_success (with_reducible show wpAny _ _ (exec (Stmt.While _ _ _ _) _) _ _ _)); first | (k_unfold; (try dsimp only)) | (k_end; wrow_close) | walk1 | (dsimp only; walk1) | (leave1; walk_say "STEP leave1"; try dsimp only)) | fail "no step"))
          (rename News _ _ _ _ => N7)
          (rename Fr _ _ _ _ => F7)
          have hst := linv_step hp' (Int.ofNat_le.mp hge)
          have hTr := left_rest hfr hT2
          have hTq := left_quot hsub9 hfq (ftop_eq hms (Int.ofNat_le.mp hge) hov hun)
          refine' ksw_end (σ := LSt) ⟨_, fv, fn, lstep ms crs, _, _, 0, ftop ms (crs.length - ms.length) (fgetD crs) :: cqs, tl9⟩ F7 N7 ?eM ⟨hTr, hTq⟩ ?ek ?er hst ?em
          (case ek => k_dflt (exact List.forall_mem_cons.mpr ⟨by with_unfolding_all rfl, List.forall_mem_cons.mpr ⟨by with_unfolding_all rfl, List.forall_mem_nil _⟩⟩))
          (case eM =>
            intro p hp
            simp only [LSt.led, List.mem_cons] at hp ⊢
            rcases hp with h | h | h <;> simp [h])
          (case er => dsimp only [LSt.ps]; ksw_same)
          (case em => show (lstep ms crs).length < crs.length; rw [lstep_len]; omega)
      · (rename News _ _ _ _ => N7)
        (rename Kept _ _ => kP)
        exact hret _ _ _ kP ⟨_, _, _, _, _, _, _, _, _, _, rfl, hp', by omega, hfr, hfq, fun p hp => ⟨(N7 p hp).1, (N7 p hp).2.2⟩⟩)
end
-- QuotMath
section
open PySem PySem.W PySem.Spec PySem.Calls PyProof.Rows PySem.SeqAt
set_option maxRecDepth 100000
theorem reads_tup {h : Heap} {a : Addr} {p : Fr2} {t u : Tok} (ho : h.get? a = some (tupO p t u)) : Reads h (.ref a) (.tuple [.int p.1, .int p.2]) ([] ++ ([] ++ [])) :=
  Reads.tuple ho rfl rfl (.cons (.int _ _) (.cons (.int _ _) .nil))
def tupD (p : Fr2) : PyData := .tuple [.int p.1, .int p.2]
theorem readsAll_tups {h : Heap} {tl : List (Addr × Obj)} {vs : List Value} {ps : List Fr2} (N : ∀ q ∈ tl, h.get? q.1 = some q.2) (hT : TupsIn tl vs ps) : ∃ as, ReadsAll h vs (ps.map tupD) as := by
  induction hT with
  | nil => exact ⟨[], .nil⟩
  | cons m _ ih =>
    obtain ⟨as, ih⟩ := ih
    exact ⟨_, .cons (reads_tup (N _ m)) ih⟩
theorem canLay_tups : ∀ ps : List Fr2, PyData.canLayAll0 (ps.map tupD) = true
  | [] => by simp [PyData.canLayAll0]
  | p :: r => by simp [PyData.canLayAll0, PyData.canLay0, tupD, canLay_tups r]
theorem depth_tups : ∀ ps : List Fr2, PyData.depthAll (ps.map tupD) ≤ 3
  | [] => by simp [PyData.depthAll]
  | p :: r => by
    have := depth_tups r
    simp only [List.map_cons, PyData.depthAll, PyData.depth, tupD]
    omega
theorem shaped_tups (ps : List Fr2) : shaped (.list (ps.map tupD)) = true := by
  have h1 := depth_tups ps
  have h2 : PyData.depth (.list (ps.map tupD)) ≤ 64 := by simp only [PyData.depth]; omega
  show (PyData.canLay0 (.list (ps.map tupD)) && decide (PyData.depth (.list (ps.map tupD)) ≤ 64)) = true
  rw [Bool.and_eq_true]
  exact ⟨by simp only [PyData.canLay0]; exact canLay_tups ps, decide_eq_true h2⟩
section
variable {prog : Program} {w : World} {A : Around} {E : Value → Shared → Prop} {s : Shared} {h₀ : Heap} {L : Addr} {m : Str → Option Value} {news : List (Addr × Obj)}
theorem ne_tups {a b : Addr} {vs : List Value} {n k : Nat} {tl : List (Addr × Obj)} {ps : List Fr2} {Q : Value → Shared → Prop} (N : News h₀ L s.heap news) (hT : TupsIn tl vs ps) (hsub : ∀ q ∈ tl, q ∈ news)
    (hl : (a, listOf vs.toArray n) ∈ news) (hb : (b, listOf #[] k) ∈ news) (hu : A.units + 64 < cLine)
    (h : Q (.bool (!decide (ps = []))) s) : wpAny (model prog w) A (compareOp .NotEq (.ref a) (.ref b)) Q E s := by
  obtain ⟨as, hR⟩ := readsAll_tups (fun q hq => (N q (hsub q hq)).1) hT
  refine ne_dataH_same (Reads.list (vs := vs.toArray) (n := n) (N _ hl).1 rfl rfl (by simpa using hR)) (Reads.list (xs := []) (vs := #[]) (n := k) (N _ hb).1 rfl rfl .nil) (shaped_tups ps) (by decide) hu ?_ ?_
  · cases ps <;> simp [noMix, noMixAll]
  · have e : PySem.Spec.same (.list (ps.map tupD)) (.list []) = decide (ps = []) := by
      cases ps <;> simp [PySem.Spec.same, PySem.Spec.sameAll]
    rw [e]; exact h
end
theorem comp_invT {prog : Program} {w : World} {A : Around} {h₀ : Heap} {L : Addr} {m : Str → Option Value} {env : Env} {ct elt : Expr} {x : Str} {scope : Scope} {cl : List (Str × Addr)} {s : Shared} {S : List (Addr × Obj) → Prop} {P : Nat → Value → Prop} {Fin : List Value → List (Addr × Obj) → Prop} {news : List (Addr × Obj)}
    {Inv : Nat → List Value → Prop} (n : Nat) (h0 : Inv 0 [])
    (turn : ∀ i ys v I oI C oC D m₂ h tk (E' : Value → Shared → Prop), i < n → P i v → Inv i ys → LCg.NsObj oC m₂ → m₂ x = some v → Fr h₀ L h m → News h₀ L h ((I, oI) :: (C, oC) :: (D, LCg.lst ys) :: news) → LCg.Off3 I C D news → ((@Ne Nat I C) ∧ (@Ne Nat I D) ∧ (@Ne Nat C D)) →
      wpAny (model prog w) A (isTrue ct (compEnvC scope cl C env) (eval ct (compEnvC scope cl C env))) (fun ok s' => if ok = true then
        wpAny (model prog w) A (eval elt (compEnvC scope cl C env)) (LCg.CompEnd h₀ L m { s with heap := h, toks := tk } I oI C oC D (LCg.lst ys) S (fun y news' => InvN news (Inv (i + 1)) (ys ++ [y]) news')) E' s'
        else LCg.CompEnd h₀ L m { s with heap := h, toks := tk } I oI C oC D (LCg.lst ys) S (fun _ news' => InvN news (Inv (i + 1)) ys news') Value.none s') E' { s with heap := h, toks := tk })
    (fin : ∀ ys, Inv n ys → Fin ys news) : LCt.CompRestT prog w A h₀ L m env ct elt x scope cl s S P Fin n 0 [] news := by
  have key : ∀ (j i : Nat) (ys : List Value), i + j = n → Inv i ys → LCt.CompRestT prog w A h₀ L m env ct elt x scope cl s S P Fin j i ys news := by
    intro j
    induction j with
    | zero => intro i ys hi hv; exact LCt.CompRestT.zero (fin ys (by rw [show n = i by omega]; exact hv))
    | succ j ih =>
      intro i ys hi hv
      refine LCt.CompRestT.succ ?_
      intro v I oI C oC D m₂ h tk E' hp hC hx F N off ne
      refine wpAny_mono (turn i ys v I oI C oC D m₂ h tk E' (by omega) hp hv hC hx F N off ne) (fun ok s₂ hq => ?_) fun _ _ e => e
      cases ok with
      | true =>
        simp only [if_true] at hq ⊢
        refine wpAny_mono hq (fun y s₃ hq => ?_) fun _ _ e => e
        obtain ⟨h', tk', nw', e, F', N', off', hS, rfl, hi'⟩ := hq
        exact ⟨h', tk', _, e, F', N', off', hS, ih (i + 1) _ (by omega) hi'⟩
      | false =>
        simp only [Bool.false_eq_true, if_false] at hq ⊢
        obtain ⟨h', tk', nw', e, F', N', off', hS, rfl, hi'⟩ := hq
        exact ⟨h', tk', _, e, F', N', off', hS, ih (i + 1) _ (by omega) hi'⟩
  exact key n 0 [] (by omega) h0
end
-- quot
section
open PySem PySem.W PySem.Spec PySem.Calls PyProof.Rows
set_option maxRecDepth 100000
section
variable {w : World} {mean : ExcName → Option Value} {mg mb : Str → Option Value} {f : Addr} {d : Nat} {vals : List Value} {args : Heap → Prop}
  {dp un : Nat} {gd : Option (List Code)} {cn : Str} {cs : Scope} {a : Addr} {ccd : Value} {cl : List (Str × Addr)} {outer : List Env} {A₀ : Around} {base h₀ : Heap} {L : Addr} {m : Str → Option Value} {s : Shared} {Q E : Value → Shared → Prop} {news : List (Addr × Obj)}
theorem spec_useLeft {ns ms : List Int} (C : Spec w mean mg mb f d vals args (LeftOut ns ms))
    (B : Below A₀ base outer h₀) (F : Fr h₀ L s.heap m) (X : (Mine.hd.heap_39 w.params).In h₀) (N : News h₀ L s.heap news) (T : Top Mine.hd.view_39 (looseW Mine.hd.view_39 []) mean mg mb h₀) (hk : cs.kind = .function) (ha : args s.heap) (hd : dp + d < recursionLimit) (hu : un + 8 * d + 100 < cLine)
    (ret : ∀ T r q rv rn qv qn rs qs tl h' tk', LInv ns ms rs qs → rs.length < ms.length → TupsIn tl rv rs → TupsIn tl qv qs → Fr h₀ L h' m → News h₀ L h' ((T, ({ cls := .type "tuple", data := .seq (List.toArray [.ref r, .ref q]) } : Obj)) :: (q, listOf (List.toArray qv) qn) :: (r, listOf (List.toArray rv) rn) :: tl) → Q (.ref T) { s with heap := h', toks := tk' }) :
    wpAny (model PySem.Challenge.rw_pq0213_01.row.prog w) (ktrTop dp un gd cn cs L a ccd cl outer) (call (.ref f) vals) Q E s := by
  have _ := N
  refine C dp un gd cn cs a ccd cl outer A₀ base h₀ L m s Q E B F X T hk hd hu ha fun v h' tk' k o => ?_
  obtain ⟨T, r, q, rv, rn, qv, qn, rs, qs, tl, rfl, hI, hlt, hr, hq, hN⟩ := o
  refine ret T r q rv rn qv qn rs qs tl h' tk' hI hlt hr hq (fr_kept F k) fun p hp => ?_
  obtain ⟨h1, h2⟩ := hN p hp
  refine ⟨h1, fun e => ?_, ?_⟩
  · obtain ⟨oL, _, _, hL, _⟩ := F.ns
    have e' : p.1 = L := e
    rw [← e', h2] at hL; cases hL
  · cases z : h₀.get? p.1 with
    | none => rfl
    | some o' => have := F.keep _ _ z; rw [h2] at this; cases this
end
local macro_rules | `(tactic| k_mem) => `(tactic| assumption)
theorem linv_rszq {a b : List Int} {rs qs : List Fr2} {tl : List (Addr × Obj)} {qv : List Value} (h : LInv a b rs qs) (hT : TupsIn tl qv qs) : qv.toArray.size ≤ sizeLine := by
  have := h.ql
  rw [PySem.sizeLine_eq, List.size_toArray, hT.length]; omega
def QuoA (tl : List (Addr × Obj)) (rs : List Fr2) (i : Nat) (ys : List Value) : Prop := TupsIn tl ys ((rs.take i).filter fun p => p.1 != 0)
def QuoB (tl : List (Addr × Obj)) (rs : List Fr2) (i : Nat) (ys : List Value) : Prop := TupsIn tl ys ((rs.take i).filter fun p => Int.fmod p.1 p.2 != 0)
def QuoC (rs : List Fr2) (i : Nat) (ys : List Value) : Prop := IntsAre ys ((rs.take i).map fun p => Int.fdiv p.1 p.2)
theorem quo_take {i : Nat} {rs : List Fr2} {p : Fr2} (h : rs[i]? = some p) : rs.take (i + 1) = rs.take i ++ [p] := by rw [List.take_add_one, h]; rfl
theorem quoF_yes {f : Fr2 → Bool} {tl : List (Addr × Obj)} {rs : List Fr2} {i : Nat} {ys : List Value} {a : Addr} {p : Fr2} {t u : Tok} (h : TupsIn tl ys ((rs.take i).filter f)) (hp : rs[i]? = some p) (hm : (a, tupO p t u) ∈ tl) (hf : f p = true) : TupsIn tl (ys ++ [.ref a]) ((rs.take (i + 1)).filter f) := by
  rw [quo_take hp, List.filter_append, List.filter_cons_of_pos hf]
  exact h.append (.cons hm .nil)
theorem quoF_no {f : Fr2 → Bool} {tl : List (Addr × Obj)} {rs : List Fr2} {i : Nat} {ys : List Value} {p : Fr2} (h : TupsIn tl ys ((rs.take i).filter f)) (hp : rs[i]? = some p) (hf : f p = false) : TupsIn tl ys ((rs.take (i + 1)).filter f) := by
  rw [quo_take hp, List.filter_append, List.filter_cons_of_neg (by rw [hf]; decide)]
  simpa using h
theorem quoA_yes {tl : List (Addr × Obj)} {rs : List Fr2} {i : Nat} {ys : List Value} {a : Addr} {p : Fr2} {t u : Tok} (h : QuoA tl rs i ys) (hp : rs[i]? = some p) (hm : (a, tupO p t u) ∈ tl) (hf : p.1 ≠ 0) : QuoA tl rs (i + 1) (ys ++ [.ref a]) := quoF_yes h hp hm (by simpa using hf)
theorem quoA_no {tl : List (Addr × Obj)} {rs : List Fr2} {i : Nat} {ys : List Value} {p : Fr2} (h : QuoA tl rs i ys) (hp : rs[i]? = some p) (hf : p.1 = 0) : QuoA tl rs (i + 1) ys := quoF_no h hp (by simpa using hf)
theorem quoB_yes {tl : List (Addr × Obj)} {rs : List Fr2} {i : Nat} {ys : List Value} {a : Addr} {p : Fr2} {t u : Tok} (h : QuoB tl rs i ys) (hp : rs[i]? = some p) (hm : (a, tupO p t u) ∈ tl) (hf : Int.fmod p.1 p.2 ≠ 0) : QuoB tl rs (i + 1) (ys ++ [.ref a]) := quoF_yes h hp hm (by simpa using hf)
theorem quoB_no {tl : List (Addr × Obj)} {rs : List Fr2} {i : Nat} {ys : List Value} {p : Fr2} (h : QuoB tl rs i ys) (hp : rs[i]? = some p) (hf : Int.fmod p.1 p.2 = 0) : QuoB tl rs (i + 1) ys := quoF_no h hp (by simpa using hf)
theorem quoA_end {tl : List (Addr × Obj)} {rs : List Fr2} {rv ys : List Value} (h : QuoA tl rs rv.toArray.size ys) (hT : TupsIn tl rv rs) : TupsIn tl ys (rs.filter fun p => p.1 != 0) := by
  unfold QuoA at h
  rwa [List.size_toArray, hT.length, List.take_length] at h
theorem quoB_end {tl : List (Addr × Obj)} {rs : List Fr2} {rv ys : List Value} (h : QuoB tl rs rv.toArray.size ys) (hT : TupsIn tl rv rs) : TupsIn tl ys (rs.filter fun p => Int.fmod p.1 p.2 != 0) := by
  unfold QuoB at h
  rwa [List.size_toArray, hT.length, List.take_length] at h
theorem quoC_snoc {rs : List Fr2} {i : Nat} {ys : List Value} {p : Fr2} {t : Tok} (h : QuoC rs i ys) (hp : rs[i]? = some p) : QuoC rs (i + 1) (ys ++ [.int (Int.fdiv p.1 p.2) t]) := by
  unfold QuoC at *
  rw [quo_take hp, List.map_append]
  exact IntsAre.append h (.cons _ _ .nil)
theorem quoC_end {tl : List (Addr × Obj)} {rs : List Fr2} {rv ys : List Value} (h : QuoC rs rv.toArray.size ys) (hT : TupsIn tl rv rs) : IntsAre ys (rs.map fun p => Int.fdiv p.1 p.2) := by
  unfold QuoC at h
  rwa [List.size_toArray, hT.length, List.take_length] at h
theorem linv_qpos {a b : List Int} {rs qs : List Fr2} {i : Nat} {p : Fr2} (h : LInv a b rs qs) (hp : qs[i]? = some p) : p.2 ≠ 0 := by
  have := (h.bq p (List.mem_of_getElem? hp)).2.2
  omega
theorem quo_none1 {a b : List Int} {rs qs : List Fr2} (h : LInv a b rs qs) (hl : rs.length < b.length) (hf : ¬ List.filter (fun p => p.1 != 0) rs = []) : zx a b = none := by
  rw [linv_end h hl, if_neg]
  intro e
  refine hf (List.filter_eq_nil_iff.mpr fun p hp => ?_)
  have := (Bool.and_eq_true_iff.mp e).1
  rw [List.all_eq_true] at this
  have := this p hp
  simp at this
  simp [this]
theorem whole_fmod {a b : List Int} {rs qs : List Fr2} (h : LInv a b rs qs) : (qs.all whole1 = true) ↔ List.filter (fun p => Int.fmod p.1 p.2 != 0) qs = [] := by
  rw [List.filter_eq_nil_iff, List.all_eq_true]
  constructor
  · intro k p hp
    have z := (h.bq p hp).2.2
    have := k p hp
    unfold whole1 at this
    rw [Int.fmod_eq_emod_of_nonneg _ (Int.le_of_lt z)]
    simp at this
    simp [this]
  · intro k p hp
    have z := (h.bq p hp).2.2
    have := k p hp
    rw [Int.fmod_eq_emod_of_nonneg _ (Int.le_of_lt z)] at this
    unfold whole1
    simp at this
    simp [this]
theorem quo_none2 {a b : List Int} {rs qs : List Fr2} (h : LInv a b rs qs) (hl : rs.length < b.length) (hf : ¬ List.filter (fun p => Int.fmod p.1 p.2 != 0) qs = []) : zx a b = none := by
  rw [linv_end h hl, if_neg]
  intro e
  exact hf ((whole_fmod h).mp (Bool.and_eq_true_iff.mp e).2)
theorem quo_some {a b : List Int} {rs qs : List Fr2} (h : LInv a b rs qs) (hl : rs.length < b.length) (h1 : List.filter (fun p => p.1 != 0) rs = []) (h2 : List.filter (fun p => Int.fmod p.1 p.2 != 0) qs = []) : zx a b = some (trim (qs.map fun p => Int.fdiv p.1 p.2)) := by
  rw [linv_end h hl, if_pos]
  · congr 2
    refine List.map_congr_left fun p hp => ?_
    rw [Int.fdiv_eq_ediv_of_nonneg _ (Int.le_of_lt (h.bq p hp).2.2)]
  · rw [Bool.and_eq_true]
    refine ⟨?_, (whole_fmod h).mpr h2⟩
    rw [List.all_eq_true]
    intro p hp
    have := List.filter_eq_nil_iff.mp h1 p hp
    simp at this
    simp [this]
def QuoD (rs : List Fr2) (ys : List Value) : Prop := QuoC rs ys.length ys
theorem quoD_nil {rs : List Fr2} : QuoD rs [] := .nil
theorem quoD_snoc {rs : List Fr2} {i : Nat} {ys : List Value} {p : Fr2} {t : Tok} (h : QuoD rs ys) (hl : ys.length = i) (hp : rs[i]? = some p) : QuoD rs (ys ++ [.int (Int.fdiv p.1 p.2) t]) := by
  unfold QuoD at *
  rw [List.length_append, List.length_singleton, hl]
  rw [hl] at h
  exact quoC_snoc h hp
theorem quoD_end {tl : List (Addr × Obj)} {rs : List Fr2} {rv ys : List Value} (h : QuoD rs ys) (hl : ys.length = rv.toArray.size) (hT : TupsIn tl rv rs) : IntsAre ys (rs.map fun p => Int.fdiv p.1 p.2) := by
  unfold QuoD at h
  rw [hl] at h
  exact quoC_end h hT
theorem linv_qlog {a b : List Int} {rs qs : List Fr2} {i : Nat} {p : Fr2} (h : LInv a b rs qs) (hp : qs[i]? = some p) : p.2.natAbs.log2 < 9000 := by
  have z := h.bq p (List.mem_of_getElem? hp)
  have h0 : p.2.natAbs ≠ 0 := by have := z.2.2; omega
  exact Nat.lt_of_lt_of_le ((Nat.log2_lt h0).mpr z.2.1) (by decide)
abbrev QSt.facts (c : RSt) : Prop := IntsAre c.rv c.rs
theorem quoL_len {a b : List Int} {rs qs : List Fr2} {tl : List (Addr × Obj)} {qv ys : List Value} (h : LInv a b rs qs) (hT : TupsIn tl qv qs) (hl : ys.length = qv.toArray.size) : ys.length ≤ 100 := by
  have := h.ql
  rw [hl, List.size_toArray, hT.length]; omega
theorem quo_item {tl : List (Addr × Obj)} {rv : List Value} {rs : List Fr2} {i : Nat} {v : Value} (hT : TupsIn tl rv rs) (hv : rv.toArray[i]? = some v) :
    ∃ a p t u, v = .ref a ∧ rs[i]? = some p ∧ (a, tupO p t u) ∈ tl := by
  obtain ⟨a, p, t, u, e1, e2, e3⟩ := hT.at i (v := v) (by simpa using hv)
  exact ⟨a, p, t, u, e1, e2, e3⟩
local macro_rules | `(tactic| walk_at "compareOp NotEq ref ref") => `(tactic| (k_here; (with_reducible show wpAny _ _ (compareOp CmpOp.NotEq (Value.ref _) (Value.ref _)) _ _ _); k_dflt (refine' ne_tups ?k1 ?k2 ?k3 ?k4 ?k5 ?k6 ?_; (case k1 => k_asm); (case k4 => k_mem); (case k2 => assumption); (case k3 => ((intro q hq; first | exact hq | exact .tail _ hq | exact .tail _ (.tail _ hq) | exact .tail _ (.tail _ (.tail _ hq)) | exact .tail _ (.tail _ (.tail _ (.tail _ hq))) | exact .tail _ (.tail _ (.tail _ (.tail _ (.tail _ hq)))) | exact .tail _ (.tail _ (.tail _ (.tail _ (.tail _ (.tail _ hq)))))  | exact .tail _ (.tail _ (.tail _ (.tail _ (.tail _ (.tail _ (.tail _ hq)))))) | exact .tail _ (.tail _ (.tail _ (.tail _ (.tail _ (.tail _ (.tail _ (.tail _ hq)))))))))); (case k5 => k_mem); (case k6 => units_room); k_whole)))
local macro_rules | `(tactic| walk_at "binaryOp FloorDiv int int") => `(tactic| (k_here; k_dflt (refine floordiv_int ?k1 ?_ (Or.inl (PyProof.noPylong_of_log2 ?k2)); (case k1 => assumption); (case k2 => assumption))))
set_option maxHeartbeats 2000000 in
theorem quot_ok (w : World) (mean : ExcName → Option Value) (mg mb : Str → Option Value) (l l2 : Addr) (ns ms : List Int) (hin : InOk ns ms) :
    Spec w mean mg mb 137 2 [.ref l, .ref l2] (fun h => LAt h l ns ∧ LAt h l2 ms) (ZxOut ns ms) := by
  have hn : ns.length ≤ 20 := by have := hin.la; omega
  have hm : ms.length ≤ 20 := by have := hin.lb; omega
  unfold Spec
  k_fill
  w_on
  w_strict (
    intro dp un gd cn cs a ccd cl outer A₀ base h₀ L m s Q E B F X T hk hd hu ha hret
    obtain ⟨⟨vs, hl, hi⟩, vs2, hl2, hi2⟩ := ha
    refine wpAny_call ?_
    k_dflt (refine' code_pure (binds := [(Str.ofString "top", .ref l), (Str.ofString "bottom", .ref l2)]) ?k1 ?k2 ?k3 ?k5 ?kA ?kF ?kK ?k6 ?k7 ?k8 ?k9 ?kB ?_ ?c2 ?c3 ?c4 ?c5; (((case kA => exact rfl); (case kF => exact rfl); (case kK => assumption); (case k1 => k_asm); (case k2 => k_asm); (case k3 => k_asm); (case k5 => k_asm); (case k6 => k_is); (case k7 => k_is); (case k8 => ktr_room); (case k9 => exact BindsTo.of_eq rfl); (case c5 => decide); (case kB => exact locs rfl); (case c2 => exact rfl); (case c3 => exact rfl); (case c4 => exact rfl); k_whole; intro L' h' F' N' B' X' T'; (try dsimp only); (try k_fold))))
    (repeat' (first | ((fail_if_success (with_reducible show wpAny _ _ (exec (Stmt.While _ _ _ _) _) _ _ _)); (fail_if_success (with_reducible show wpAny _ _ (call (Value.ref _) _) _ _ _)); (fail_if_success (with_reducible show wpAny _ _ (eval (Expr.ListComp _ _ _ _) _) _ _ _)); (fail_if_success (with_reducible show wpAny _ _ (exec (Stmt.Assign _ (Expr.ListComp _ _ _ _) _) _) _ _ _)); (fail_if_success (with_reducible show LCg.CompSrc _ _ _ _ _ _ _ _ _ _ _ _ _ _)); (fail_if_success (with_reducible show LCt.CompSrcT _ _ _ _ _ _ _ _ _ _ _ _ _ _ _)); first | (k_unfold; (try dsimp only)) | (k_end; wrow_close) | walk1 | (dsimp only; walk1) | (leave1; walk_say "STEP leave1"; try dsimp only)) | fail "no step"))
    k_dflt (refine' spec_useLeft (left_ok _ _ _ _ _ _ _ _ hin) ?kB ?kF ?kX ?kN ?kT ?kk ?ka ?kd ?ku ?_; walk_at "p_use")
    intro T9 r9 q9 rv rn qv qn rs qs tl h0 tk0 hI hlt hTr hTq F0 N0
    have hrz := linv_rsz hI hTr
    have hqz := linv_rszq hI hTq
    (try k_sweep)
    (try dsimp only)
    (try k_unmd)
    (try k_fold)
    (repeat' (first | ((fail_if_success (with_reducible show wpAny _ _ (exec (Stmt.While _ _ _ _) _) _ _ _)); (fail_if_success (with_reducible show wpAny _ _ (call (Value.ref _) _) _ _ _)); (fail_if_success (with_reducible show wpAny _ _ (eval (Expr.ListComp _ _ _ _) _) _ _ _)); (fail_if_success (with_reducible show wpAny _ _ (exec (Stmt.Assign _ (Expr.ListComp _ _ _ _) _) _) _ _ _)); (fail_if_success (with_reducible show LCg.CompSrc _ _ _ _ _ _ _ _ _ _ _ _ _ _)); (fail_if_success (with_reducible show LCt.CompSrcT _ _ _ _ _ _ _ _ _ _ _ _ _ _ _)); first | (k_unfold; (try dsimp only)) | (k_end; wrow_close) | walk1 | (dsimp only; walk1) | (leave1; walk_say "STEP leave1"; try dsimp only)) | fail "no step"))
    k_dflt (refine LCt.ListComp_T (F₀ := by k_asm) (by rfl) (by decide) (by rfl) (by decide) (by rfl) ?_)
    (repeat' (first | ((fail_if_success (with_reducible show wpAny _ _ (exec (Stmt.While _ _ _ _) _) _ _ _)); (fail_if_success (with_reducible show wpAny _ _ (call (Value.ref _) _) _ _ _)); (fail_if_success (with_reducible show wpAny _ _ (eval (Expr.ListComp _ _ _ _) _) _ _ _)); (fail_if_success (with_reducible show wpAny _ _ (exec (Stmt.Assign _ (Expr.ListComp _ _ _ _) _) _) _ _ _)); (fail_if_success (with_reducible show LCg.CompSrc _ _ _ _ _ _ _ _ _ _ _ _ _ _)); (fail_if_success (with_reducible show LCt.CompSrcT _ _ _ _ _ _ _ _ _ _ _ _ _ _ _)); first | (k_unfold; (try dsimp only)) | (k_end; wrow_close) | walk1 | (dsimp only; walk1) | (leave1; walk_say "STEP leave1"; try dsimp only)) | fail "no step"))
    (rename News _ _ _ _ => N1)
    (rename Fr _ _ _ _ => F1)
    k_dflt (refine LCt.CompSrcT.ledger (by rfl) F1 N1 (.tail _ (.tail _ (.head _))) hrz ?_)
    intro g2'
    refine comp_invT (Inv := QuoA tl rs) _ .nil ?_ ?_
    · intro j ys v I oI C oC D m₂ h₂ tk₂ E' hj hv hV hC hx F₂ N₂ off₂ ne₂
      obtain ⟨ap, pp, t1, u1, rfl, hpp, hmem⟩ := quo_item hTr hv
      have off3 := off₂
      simp only [LCg.Off3] at off₂ N₂
      (try k_unmd)
      (try k_fold)
      (repeat' (first | ((fail_if_success (with_reducible show wpAny _ _ (exec (Stmt.While _ _ _ _) _) _ _ _)); (fail_if_success (with_reducible show wpAny _ _ (call (Value.ref _) _) _ _ _)); (fail_if_success (with_reducible show wpAny _ _ (eval (Expr.ListComp _ _ _ _) _) _ _ _)); (fail_if_success (with_reducible show wpAny _ _ (exec (Stmt.Assign _ (Expr.ListComp _ _ _ _) _) _) _ _ _)); (fail_if_success (with_reducible show LCg.CompSrc _ _ _ _ _ _ _ _ _ _ _ _ _ _)); (fail_if_success (with_reducible show LCt.CompSrcT _ _ _ _ _ _ _ _ _ _ _ _ _ _ _)); first | (k_unfold; (try dsimp only)) | (k_end; wrow_close) | walk1 | (dsimp only; walk1) | (leave1; walk_say "STEP leave1"; try dsimp only)) | fail "no step"))
      · (rename News _ _ _ _ => N9)
        (rename Fr _ _ _ _ => F9)

        exact LCg.CompEnd.intro F9 N9 _ (fun p hp => hp) off3 (Or.inr ⟨_, .tail _ (.tail _ (.head _)), rfl, _, rfl⟩) ⟨rfl, quoA_yes hV hpp hmem (by assumption)⟩
      · (rename News _ _ _ _ => N9)
        (rename Fr _ _ _ _ => F9)

        exact LCg.CompEnd.intro F9 N9 _ (fun p hp => hp) off3 (Or.inr ⟨_, .tail _ (.tail _ (.head _)), rfl, _, rfl⟩) ⟨rfl, quoA_no hV hpp (by assumption)⟩
    · intro ys hV
      have hV1 := quoA_end hV hTr
      unfold LCg.FinE
      intro D3 h3 tk3 F3 N3 o3
      (try k_unmd)
      (try dsimp only)
      (try k_fold)
      (repeat' (first | ((fail_if_success (with_reducible show wpAny _ _ (exec (Stmt.While _ _ _ _) _) _ _ _)); (fail_if_success (with_reducible show wpAny _ _ (call (Value.ref _) _) _ _ _)); (fail_if_success (with_reducible show wpAny _ _ (eval (Expr.ListComp _ _ _ _) _) _ _ _)); (fail_if_success (with_reducible show wpAny _ _ (exec (Stmt.Assign _ (Expr.ListComp _ _ _ _) _) _) _ _ _)); (fail_if_success (with_reducible show LCg.CompSrc _ _ _ _ _ _ _ _ _ _ _ _ _ _)); (fail_if_success (with_reducible show LCt.CompSrcT _ _ _ _ _ _ _ _ _ _ _ _ _ _ _)); first | (k_unfold; (try dsimp only)) | (k_end; wrow_close) | walk1 | (dsimp only; walk1) | (leave1; walk_say "STEP leave1"; try dsimp only)) | fail "no step"))
      · have hz1 : List.filter (fun p => p.1 != 0) rs = [] := by assumption
        k_dflt (refine LCt.ListComp_T (F₀ := by k_asm) (by rfl) (by decide) (by rfl) (by decide) (by rfl) ?_)
        (repeat' (first | ((fail_if_success (with_reducible show wpAny _ _ (exec (Stmt.While _ _ _ _) _) _ _ _)); (fail_if_success (with_reducible show wpAny _ _ (call (Value.ref _) _) _ _ _)); (fail_if_success (with_reducible show wpAny _ _ (eval (Expr.ListComp _ _ _ _) _) _ _ _)); (fail_if_success (with_reducible show wpAny _ _ (exec (Stmt.Assign _ (Expr.ListComp _ _ _ _) _) _) _ _ _)); (fail_if_success (with_reducible show LCg.CompSrc _ _ _ _ _ _ _ _ _ _ _ _ _ _)); (fail_if_success (with_reducible show LCt.CompSrcT _ _ _ _ _ _ _ _ _ _ _ _ _ _ _)); first | (k_unfold; (try dsimp only)) | (k_end; wrow_close) | walk1 | (dsimp only; walk1) | (leave1; walk_say "STEP leave1"; try dsimp only)) | fail "no step"))
        (rename News _ _ _ _ => N4)
        (rename Fr _ _ _ _ => F4)
        k_dflt (refine LCt.CompSrcT.ledger (by rfl) F4 N4 (.tail _ (.tail _ (.tail _ (.head _)))) hqz ?_)
        intro g4'
        refine comp_invT (Inv := QuoB tl qs) _ .nil ?_ ?_
        · intro j ys2 v I oI C oC D m₂ h₂ tk₂ E' hj hv hV hC hx F₂ N₂ off₂ ne₂
          obtain ⟨ap, pp, t1, u1, rfl, hpp, hmem⟩ := quo_item hTq hv
          have hpos := linv_qpos hI hpp
          have off3 := off₂
          simp only [LCg.Off3] at off₂ N₂
          (try k_unmd)
          (try k_fold)
          (repeat' (first | ((fail_if_success (with_reducible show wpAny _ _ (exec (Stmt.While _ _ _ _) _) _ _ _)); (fail_if_success (with_reducible show wpAny _ _ (call (Value.ref _) _) _ _ _)); (fail_if_success (with_reducible show wpAny _ _ (eval (Expr.ListComp _ _ _ _) _) _ _ _)); (fail_if_success (with_reducible show wpAny _ _ (exec (Stmt.Assign _ (Expr.ListComp _ _ _ _) _) _) _ _ _)); (fail_if_success (with_reducible show LCg.CompSrc _ _ _ _ _ _ _ _ _ _ _ _ _ _)); (fail_if_success (with_reducible show LCt.CompSrcT _ _ _ _ _ _ _ _ _ _ _ _ _ _ _)); first | (k_unfold; (try dsimp only)) | (k_end; wrow_close) | walk1 | (dsimp only; walk1) | (leave1; walk_say "STEP leave1"; try dsimp only)) | fail "no step"))
          · (rename News _ _ _ _ => N9)
            (rename Fr _ _ _ _ => F9)
            exact LCg.CompEnd.intro F9 N9 _ (fun p hp => hp) off3 (Or.inr ⟨_, .tail _ (.tail _ (.tail _ (.head _))), rfl, _, rfl⟩) ⟨rfl, quoB_yes hV hpp hmem (by assumption)⟩
          · (rename News _ _ _ _ => N9)
            (rename Fr _ _ _ _ => F9)
            exact LCg.CompEnd.intro F9 N9 _ (fun p hp => hp) off3 (Or.inr ⟨_, .tail _ (.tail _ (.tail _ (.head _))), rfl, _, rfl⟩) ⟨rfl, quoB_no hV hpp (by assumption)⟩
        · intro ys2 hV
          have hV2 := quoB_end hV hTq
          unfold LCg.FinE
          intro D5 h5 tk5 F5 N5 o5
          (try k_unmd)
          (try dsimp only)
          (try k_fold)
          (repeat' (first | ((fail_if_success (with_reducible show wpAny _ _ (exec (Stmt.While _ _ _ _) _) _ _ _)); (fail_if_success (with_reducible show wpAny _ _ (call (Value.ref _) _) _ _ _)); (fail_if_success (with_reducible show wpAny _ _ (eval (Expr.ListComp _ _ _ _) _) _ _ _)); (fail_if_success (with_reducible show wpAny _ _ (exec (Stmt.Assign _ (Expr.ListComp _ _ _ _) _) _) _ _ _)); (fail_if_success (with_reducible show LCg.CompSrc _ _ _ _ _ _ _ _ _ _ _ _ _ _)); (fail_if_success (with_reducible show LCt.CompSrcT _ _ _ _ _ _ _ _ _ _ _ _ _ _ _)); first | (k_unfold; (try dsimp only)) | (k_end; wrow_close) | walk1 | (dsimp only; walk1) | (leave1; walk_say "STEP leave1"; try dsimp only)) | fail "no step"))
          · have hz2 : List.filter (fun p => Int.fmod p.1 p.2 != 0) qs = [] := by assumption
            have hzx := quo_some hI hlt hz1 hz2
            k_dflt (refine LCg.Assign_ListComp_U (F₀ := by k_asm) (by rfl) (by with_unfolding_all rfl) (by rfl) (by decide) (by rfl) (by decide) (by rfl) (by rfl) (by rfl) ?_)
            (repeat' (first | ((fail_if_success (with_reducible show wpAny _ _ (exec (Stmt.While _ _ _ _) _) _ _ _)); (fail_if_success (with_reducible show wpAny _ _ (call (Value.ref _) _) _ _ _)); (fail_if_success (with_reducible show wpAny _ _ (eval (Expr.ListComp _ _ _ _) _) _ _ _)); (fail_if_success (with_reducible show wpAny _ _ (exec (Stmt.Assign _ (Expr.ListComp _ _ _ _) _) _) _ _ _)); (fail_if_success (with_reducible show LCg.CompSrc _ _ _ _ _ _ _ _ _ _ _ _ _ _)); (fail_if_success (with_reducible show LCt.CompSrcT _ _ _ _ _ _ _ _ _ _ _ _ _ _ _)); first | (k_unfold; (try dsimp only)) | (k_end; wrow_close) | walk1 | (dsimp only; walk1) | (leave1; walk_say "STEP leave1"; try dsimp only)) | fail "no step"))
            (rename News _ _ _ _ => N6)
            (rename Fr _ _ _ _ => F6)
            have N6' := kst_newsOf (l' := (q9, listOf qv.toArray qn) :: tl) N6 (by ((intro p hp; simp only [List.mem_cons] at hp ⊢; rcases hp with h | h <;> simp [h])))
            k_dflt (refine LCg.CompSrc.ledger (by rfl) F6 N6' (.head _) hqz ?_)
            intro g6'
            refine comp_invN (Inv := QuoD qs) _ quoD_nil ?_ ?_
            · intro j ys3 v I oI C oC D m₂ h₂ tk₂ E' hj hyl hv hV hC hx F₂ N₂ off₂ ne₂
              obtain ⟨ap, pp, t1, u1, rfl, hpp, hmem⟩ := quo_item hTq hv
              have hpos := linv_qpos hI hpp
              have hlog := linv_qlog hI hpp
              have off3 := off₂
              simp only [LCg.Off3] at off₂ N₂
              clear N6 N6' F6
              (try k_unmd)
              (try k_fold)
              (repeat' (first | ((fail_if_success (with_reducible show wpAny _ _ (exec (Stmt.While _ _ _ _) _) _ _ _)); (fail_if_success (with_reducible show wpAny _ _ (call (Value.ref _) _) _ _ _)); (fail_if_success (with_reducible show wpAny _ _ (eval (Expr.ListComp _ _ _ _) _) _ _ _)); (fail_if_success (with_reducible show wpAny _ _ (exec (Stmt.Assign _ (Expr.ListComp _ _ _ _) _) _) _ _ _)); (fail_if_success (with_reducible show LCg.CompSrc _ _ _ _ _ _ _ _ _ _ _ _ _ _)); (fail_if_success (with_reducible show LCt.CompSrcT _ _ _ _ _ _ _ _ _ _ _ _ _ _ _)); first | (k_unfold; (try dsimp only)) | (k_end; wrow_close) | walk1 | (dsimp only; walk1) | (leave1; walk_say "STEP leave1"; try dsimp only)) | fail "no step"))
              (rename News _ _ _ _ => N9)
              (rename Fr _ _ _ _ => F9)
              exact LCg.CompEnd.intro F9 N9 _ (fun p hp => hp) off3 (Or.inr ⟨_, .head _, rfl, _, rfl⟩) ⟨rfl, quoD_snoc hV hyl hpp⟩
            · intro ys3 hyl3 hV
              have hxs9 := quoD_end hV hyl3 hTq
              unfold LCg.FinA
              intro D7 h7 tk7 F7 N7 o7
              clear N6 N6' F6
              (try k_unmd)
              (try dsimp only)
              (try k_fold)
              (repeat' (first | ((fail_if_success (with_reducible show wpAny _ _ (exec (Stmt.While _ _ _ _) _) _ _ _)); (fail_if_success (with_reducible show wpAny _ _ (call (Value.ref _) _) _ _ _)); (fail_if_success (with_reducible show wpAny _ _ (eval (Expr.ListComp _ _ _ _) _) _ _ _)); (fail_if_success (with_reducible show wpAny _ _ (exec (Stmt.Assign _ (Expr.ListComp _ _ _ _) _) _) _ _ _)); (fail_if_success (with_reducible show LCg.CompSrc _ _ _ _ _ _ _ _ _ _ _ _ _ _)); (fail_if_success (with_reducible show LCt.CompSrcT _ _ _ _ _ _ _ _ _ _ _ _ _ _ _)); first | (k_unfold; (try dsimp only)) | (k_end; wrow_close) | walk1 | (dsimp only; walk1) | (leave1; walk_say "STEP leave1"; try dsimp only)) | fail "no step"))
              have hxl := IntsAre.length hxs9
              have hql9 : ys3.length ≤ 100 := quoL_len hI hTq hyl3
              generalize hxe : (qs.map fun p => Int.fdiv p.1 p.2) = xs9 at hzx hxs9 hxl
              (with_unfolding_all refine' ksw_while (σ := RSt) (RSt.led []) (RSt.ps "row") QSt.facts [] (RSt.inv xs9) RSt.meas ⟨D7, ys3, _, xs9⟩ F7 ?kn hxs9 ?kk ?kp ?kt)
              (case kk => k_dflt (exact List.forall_mem_cons.mpr ⟨by with_unfolding_all rfl, List.forall_mem_nil _⟩))
              (case kn => k_dflt (exact kst_newsOf N7 (List.forall_mem_cons.mpr ⟨by k_mem, List.forall_mem_nil _⟩)))
              (case kp => exact ⟨by show xs9.length ≤ 1000; omega, rfl⟩)
              clear F7 N7
              intro c' u' h' tk' hf' hp' F' N'
              obtain ⟨cr', crv', crn', crs'⟩ := c'
              dsimp only [RSt.led, RSt.ps, QSt.facts, RSt.inv, kstB] at hf' hp' F' N'
              obtain ⟨hp1', hp2'⟩ := hp'
              have hfi' := hf'
              (try k_unmd)
              k_fold
              (repeat' (first | ((fail_if_success (with_reducible show wpAny _ _ (exec (Stmt.While _ _ _ _) _) _ _ _)); (fail_if_success (with_reducible show wpAny _ _ (call (Value.ref _) _) _ _ _)); (fail_if_success (with_reducible show wpAny _ _ (eval (Expr.ListComp _ _ _ _) _) _ _ _)); (fail_if_success (with_reducible show wpAny _ _ (exec (Stmt.Assign _ (Expr.ListComp _ _ _ _) _) _) _ _ _)); (fail_if_success (with_reducible show LCg.CompSrc _ _ _ _ _ _ _ _ _ _ _ _ _ _)); (fail_if_success (with_reducible show LCt.CompSrcT _ _ _ _ _ _ _ _ _ _ _ _ _ _ _)); first | (k_unfold; (try dsimp only)) | (k_end; wrow_close) | walk1 | (dsimp only; walk1) | (leave1; walk_say "STEP leave1"; try dsimp only)) | fail "no step"))
              · (rename Kept _ _ => kP)
                (rename News _ _ _ _ => N9)
                have he : crs' = trim xs9 := by rw [← hp2']; exact (trim_nil_of (by assumption)).symm
                exact hret _ _ _ kP (zxOut_some hzx (newL_of N9 (by k_mem) hfi' he))
              · have hpos : 0 < (crs'.length : Int) := pos_of_dec (by assumption)
                (try k_unmd)
                (repeat' (first | ((fail_if_success (with_reducible show wpAny _ _ (exec (Stmt.While _ _ _ _) _) _ _ _)); (fail_if_success (with_reducible show wpAny _ _ (call (Value.ref _) _) _ _ _)); (fail_if_success (with_reducible show wpAny _ _ (eval (Expr.ListComp _ _ _ _) _) _ _ _)); (fail_if_success (with_reducible show wpAny _ _ (exec (Stmt.Assign _ (Expr.ListComp _ _ _ _) _) _) _ _ _)); (fail_if_success (with_reducible show LCg.CompSrc _ _ _ _ _ _ _ _ _ _ _ _ _ _)); (fail_if_success (with_reducible show LCt.CompSrcT _ _ _ _ _ _ _ _ _ _ _ _ _ _ _)); first | (k_unfold; (try dsimp only)) | (k_end; wrow_close) | walk1 | (dsimp only; walk1) | (leave1; walk_say "STEP leave1"; try dsimp only)) | fail "no step"))
                · (rename Fr _ _ _ _ => lF')
                  (rename News _ _ _ _ => lN')
                  refine' ksw_end (σ := RSt) ⟨_, _, _, List.take (crs'.length - 1) crs'⟩ lF' lN' ?eM ?ef ?ek ?er ?ep ?em
                  (case ek => k_dflt (exact List.forall_mem_cons.mpr ⟨by with_unfolding_all rfl, List.forall_mem_nil _⟩))
                  (case eM => k_dflt (exact List.forall_mem_cons.mpr ⟨by k_mem, List.forall_mem_nil _⟩))
                  (case ef => show IntsAre _ _; assumption)
                  (case er => dsimp only [RSt.ps]; ksw_same)
                  (case ep => exact ⟨by show (List.take (crs'.length - 1) crs').length ≤ 1000; rw [List.length_take]; omega, by rw [← hp2']; exact trim_take crs' hpos (by assumption)⟩)
                  (case em => show (List.take (crs'.length - 1) crs').length < crs'.length; rw [List.length_take]; omega)
                · (rename Kept _ _ => kP)
                  (rename News _ _ _ _ => N9)
                  have he : crs' = trim xs9 := by rw [← hp2']; exact (trim_stop _ hpos (by assumption)).symm
                  exact hret _ _ _ kP (zxOut_some hzx (newL_of N9 (by k_mem) hfi' he))
          · (rename Kept _ _ => kP)
            exact hret _ _ _ kP (zxOut_none (quo_none2 hI hlt (by assumption)))
      · (rename Kept _ _ => kP)
        exact hret _ _ _ kP (zxOut_none (quo_none1 hI hlt (by assumption))))
end
-- init
section
open PySem PySem.W PySem.Spec PySem.Calls PyProof.Rows
set_option maxRecDepth 100000
abbrev excO (t : Addr) (dd : Option Addr) : Obj := { cls := .ref 31, dict := dd, data := .fields #[.ref t, .none, .none, .none, .bool false, .none] }
abbrev kindS : Str := Str.ofString "division by zero"
abbrev textS : Str := Str.ofString "a polynomial is divided by 0"
def InitOut (e : Addr) (h h' : Heap) (ob' : Obj) (v : Value) : Prop :=
  v = .none ∧ ∃ d t' tk m, ob' = excO t' (some d) ∧ h.get? d = none ∧ d ≠ e ∧ h'.Ns d m ∧ m (Str.ofString "kind") = some (.str kindS tk)
theorem none_but {e d : Addr} {h g : Heap} (k : KeptBut e h g) (hd : d ≠ e) (z : g.get? d = none) : h.get? d = none := by
  cases q : h.get? d with
  | none => rfl
  | some o => have := k d o hd q; rw [z] at this; cases this
theorem keptBut_of {e : Addr} {h h' : Heap} (k : ∀ b ob, b ≠ e → h.get? b = some ob → h'.get? b = some ob) : KeptBut e h h' := k
section
variable {w : World} {A : Around} {E : Value → Shared → Prop} {s : Shared} {g : Heap} {L e : Addr} {m : Str → Option Value}
theorem init_step1 {t0 : Addr} {v : Value} {Q : Value → Shared → Prop} (F : Fr g L s.heap m) (X : (Mine.hd.heap_39 w.params).In g) (N : News g L s.heap [(e, excO t0 none)])
    (h : ∀ h' t1, Fr g L h' m → News g L h' [(e, excO t1 none)] → Q .none { s with heap := h' }) :
    wpAny (model PySem.Challenge.rw_pq0213_01.row.prog w) A (call (.builtin "Exception.__init__") [.ref e, v]) Q E s := by
  obtain ⟨hp, gg, dd, tk, os⟩ := s
  obtain ⟨nm, q, bs, sn, sub, ab, col, dd, k0, k1, k2, k3, k5, hC⟩ := casfail_obj w
  have hN := N _ (.head _)
  refine exc_reinit PySem.F.excBase_Exception (F.keep _ _ (X _ _ hC)) hN.1 fun h' t1 hx hk => ?_
  refine h h' t1 (fr_but F hk hN.2.1 hN.2.2) fun p hp => ?_
  rw [List.mem_singleton.mp hp]
  exact ⟨hx, hN.2⟩
theorem init_step2 {t0 : Addr} {v : Value} {Q : Unit → Shared → Prop} (F : Fr g L s.heap m) (X : (Mine.hd.heap_39 w.params).In g) (N : News g L s.heap [(e, excO t0 none)])
    (h : ∀ h' tk' d, Fr g L h' m → News g L h' [(e, excO t0 (some d))] → g.get? d = none → d ≠ e → d ≠ L → h'.Ns1 d (fun y => if y = Str.ofString "kind" then some v else none) → Q () { s with heap := h', toks := tk' }) :
    wpAny (model PySem.Challenge.rw_pq0213_01.row.prog w) A (setAttr (.ref e) (Str.ofString "kind") v) Q E s := by
  obtain ⟨nm, q, bs, sn, sub, ab, col, dd, k0, k1, k2, k3, k5, hC⟩ := casfail_obj w
  obtain ⟨mN, hns, _, hk1, _, hk3, _, _⟩ := casfail_ns (X.keeps F.keep)
  have hN := N _ (.head _)
  have hlt := Heap.lt_size hN.1
  obtain ⟨hp, gg, dd, tk, os⟩ := s
  refine exc_first_attr PySem.F.store_Exception (F.keep _ _ (X _ _ hC)) hns hk3 hk1 exc_noKind hN.1 rfl (fun c q => by cases q) rfl fun h' tk' hx hd hk => ?_
  refine h h' tk' _ (fr_but F hk hN.2.1 hN.2.2) (fun p hp => ?_) (next_is_new F) (Nat.ne_of_gt hlt) (Nat.ne_of_gt F.ns.lt) hd
  rw [List.mem_singleton.mp hp]
  exact ⟨hx, hN.2⟩
theorem init_step3 {t0 d : Addr} {v u : Value} {Q : Unit → Shared → Prop} (F : Fr g L s.heap m) (X : (Mine.hd.heap_39 w.params).In g) (N : News g L s.heap [(e, excO t0 (some d))]) (hd0 : g.get? d = none) (hde : d ≠ e) (hdL : d ≠ L)
    (hns1 : s.heap.Ns1 d (fun y => if y = Str.ofString "kind" then some u else none))
    (h : ∀ h' tk', Fr g L h' m → News g L h' [(e, excO t0 (some d))] → h'.Ns d (fun y => if y = Str.ofString "text" then some v else if y = Str.ofString "kind" then some u else none) → Q () { s with heap := h', toks := tk' }) :
    wpAny (model PySem.Challenge.rw_pq0213_01.row.prog w) A (setAttr (.ref e) (Str.ofString "text") v) Q E s := by
  obtain ⟨nm, q, bs, sn, sub, ab, col, dd, k0, k1, k2, k3, k5, hC⟩ := casfail_obj w
  obtain ⟨mN, hns, _, _, hk2, hk3, _, _⟩ := casfail_ns (X.keeps F.keep)
  have hN := N _ (.head _)
  have heC : e ≠ 31 := fun z => by have := X _ _ hC; rw [← z, hN.2.2] at this; cases this
  have I : s.heap.Inst e 31 (fun y => if y = Str.ofString "kind" then some u else none) := ⟨_, hN.1, rfl, (fun c q => by cases q), .inr ⟨d, rfl, hde, hns1⟩⟩
  obtain ⟨hp, gg, dd, tk, os⟩ := s
  refine store_attr (ns := [Str.ofString "kind"]) PySem.F.store_Exception (F.keep _ _ (X _ _ hC)) hns hk3 hk2 exc_noText heC I (fun h' tk' I' hk ho => ?_) (by within_ways)
  obtain ⟨o1, h1, c1, d1, s1, x1⟩ := ho _ hN.1
  have hd1 := x1 d rfl
  have e1 : o1 = excO t0 (some d) := by
    obtain ⟨a1, a2, a3, a4⟩ := o1
    simp only at c1 d1 s1 hd1
    subst c1 d1 s1 hd1
    rfl
  subst e1
  obtain ⟨o2, h2, _, _, hor⟩ := I'
  rw [h1] at h2
  obtain rfl := Option.some.inj h2
  have hk' : ∀ b ob, b ≠ e → b ≠ d → hp.get? b = some ob → h'.get? b = some ob := fun b ob b1 b2 hb => hk b ob b1 (fun o₀ dx q1 q2 => by
    rw [hN.1] at q1
    obtain rfl := Option.some.inj q1
    obtain rfl := Option.some.inj q2
    exact b2) hb
  refine h h' tk' ⟨F.ns.at' fun o q => hk' _ o (Ne.symm hN.2.1) (Ne.symm hdL) q, fun b o q => hk' b o (fun z => by rw [z, hN.2.2] at q; cases q) (fun z => by rw [z, hd0] at q; cases q) (F.keep b o q), F.above⟩ (fun p hp => ?_) ?_
  · rw [List.mem_singleton.mp hp]
    exact ⟨h1, hN.2⟩
  · rcases hor with ⟨q, _⟩ | ⟨dx, q, _, hd2⟩
    · cases q
    · obtain rfl := Option.some.inj q
      exact hd2.ns
end
set_option maxHeartbeats 2000000 in
theorem init_ok (w : World) (mean : ExcName → Option Value) (mg mb : Str → Option Value) (e t0 : Addr) (tk1 tk2 : Tok) :
    SpecB w mean mg mb 28 2 [.ref e, .str kindS tk1, .str textS tk2] e (excO t0 none) (fun _ => True) (InitOut e) := by
  unfold SpecB
  k_fill
  w_on
  w_strict (
    intro dp un gd cn cs a ccd cl outer A₀ base h₀ L m s Q E B F X T hk hd hu hb0 hbL hob ha hret
    refine wpAny_call ?_
    k_dflt (refine' code_but (binds := [(Str.ofString "self", .ref e), (Str.ofString "kind", .str kindS tk1), (Str.ofString "text", .str textS tk2)]) ?k1 ?k2 ?k3 ?k5 ?kA ?kF ?kK hb0 hbL hob ?k6 ?k7 ?k8 ?k9 ?kB ?_ ?c2 ?c3 ?c4 ?c5; (((case kA => exact rfl); (case kF => exact rfl); (case kK => assumption); (case k1 => k_asm); (case k2 => k_asm); (case k3 => k_asm); (case k5 => k_asm); (case k6 => k_is); (case k7 => k_is); (case k8 => ktr_room); (case k9 => exact BindsTo.of_eq rfl); (case c5 => decide); (case kB => exact locs rfl); (case c2 => exact rfl); (case c3 => exact rfl); (case c4 => exact rfl); k_whole; intro g' L' h' kB' F' N' B' X' T'; (try dsimp only); (try k_fold))))
    (repeat' (first | ((fail_if_success (with_reducible show wpAny _ _ (getMethod _ _ _) _ _ _)); (fail_if_success (with_reducible show wpAny _ _ (call (Value.builtin "Exception.__init__") _) _ _ _)); (fail_if_success (with_reducible show wpAny _ _ (setAttr _ _ _) _ _ _)); first | (k_unfold; (try dsimp only)) | (k_end; wrow_close) | walk1 | (dsimp only; walk1) | (leave1; walk_say "STEP leave1"; try dsimp only)) | fail "no step"))
    k_dflt (refine' method_type (K := []) ?F (fun _ _ e => nomatch e) exc_typeOf exc_stub exc_init_found (by decide +kernel) ?_; (case F => k_asm); k_whole)
    (repeat' (first | ((fail_if_success (with_reducible show wpAny _ _ (getMethod _ _ _) _ _ _)); (fail_if_success (with_reducible show wpAny _ _ (call (Value.builtin "Exception.__init__") _) _ _ _)); (fail_if_success (with_reducible show wpAny _ _ (setAttr _ _ _) _ _ _)); first | (k_unfold; (try dsimp only)) | (k_end; wrow_close) | walk1 | (dsimp only; walk1) | (leave1; walk_say "STEP leave1"; try dsimp only)) | fail "no step"))
    k_dflt (refine' init_step1 ?F ?X ?N ?_; (case F => k_asm); (case X => k_asm); (case N => k_asm); k_whole)
    intro h1' t1' F1' N1'
    (try k_sweep)
    (try dsimp only)
    (try k_fold)
    (repeat' (first | ((fail_if_success (with_reducible show wpAny _ _ (getMethod _ _ _) _ _ _)); (fail_if_success (with_reducible show wpAny _ _ (call (Value.builtin "Exception.__init__") _) _ _ _)); (fail_if_success (with_reducible show wpAny _ _ (setAttr _ _ _) _ _ _)); first | (k_unfold; (try dsimp only)) | (k_end; wrow_close) | walk1 | (dsimp only; walk1) | (leave1; walk_say "STEP leave1"; try dsimp only)) | fail "no step"))
    k_dflt (refine' init_step2 ?F ?X ?N ?_; (case F => k_asm); (case X => k_asm); (case N => k_asm); k_whole)
    intro h2' tk2' d2' F2' N2' z1 z2 z3 z4
    (try k_sweep)
    (try dsimp only)
    (try k_fold)
    (repeat' (first | ((fail_if_success (with_reducible show wpAny _ _ (getMethod _ _ _) _ _ _)); (fail_if_success (with_reducible show wpAny _ _ (call (Value.builtin "Exception.__init__") _) _ _ _)); (fail_if_success (with_reducible show wpAny _ _ (setAttr _ _ _) _ _ _)); first | (k_unfold; (try dsimp only)) | (k_end; wrow_close) | walk1 | (dsimp only; walk1) | (leave1; walk_say "STEP leave1"; try dsimp only)) | fail "no step"))
    k_dflt (refine' init_step3 ?F ?X ?N z1 z2 z3 z4 ?_; (case F => k_asm); (case X => k_asm); (case N => k_asm); k_whole)
    intro h3' tk3' F3' N3' z5
    (try k_sweep)
    (try dsimp only)
    (try k_fold)
    (repeat' (first | ((fail_if_success (with_reducible show wpAny _ _ (getMethod _ _ _) _ _ _)); (fail_if_success (with_reducible show wpAny _ _ (call (Value.builtin "Exception.__init__") _) _ _ _)); (fail_if_success (with_reducible show wpAny _ _ (setAttr _ _ _) _ _ _)); first | (k_unfold; (try dsimp only)) | (k_end; wrow_close) | walk1 | (dsimp only; walk1) | (leave1; walk_say "STEP leave1"; try dsimp only)) | fail "no step"))
    (rename (∀ (b : Addr) (o : Obj), _ → _) => kP)
    (rename KeptBut _ _ _ => kB')
    exact hret _ _ _ _ (fun b o hb q => kP _ _ (kB' b o hb q)) (N3' _ (.head _)).1 ⟨rfl, d2', t1', tk1, _, rfl, none_but kB' z2 z1, z2, z5, rfl⟩)
end
-- RaiseCas
section
open PySem PySem.W PySem.Spec PySem.Calls PyProof.Rows
set_option maxRecDepth 100000
section
variable {M : Model} {A : Around} {E : Value → Shared → Prop} {env : Env} {C : Addr}
def RaiseQ (E : Value → Shared → Prop) (v : Value) (s₁ : Shared) : Prop :=
  ∃ e t dd, v = .ref e ∧ s₁.heap.get? e = some (excO t dd) ∧ (∃ nm q bs sn sub ab col dd k0 k1 k2 k3 k5, s₁.heap.get? 31 = some (excClassObj nm q 31 30 bs excTail true sn sub ab col dd k0 k1 k2 k3 k5 "Exception.__new__")) ∧ E (.ref e) s₁
theorem raise_cas {s : Shared} {x : Sem Value} {Q : Flow → Shared → Prop} (hh : A.handled = none) (h : wpAny M A x (RaiseQ E) E s) : wpAny M A (raiseStmt env (some x) none) Q E s := by
  have hcB : (Value.ref 31 :: excTail).contains (.type "BaseException") = true := by rw [List.contains_cons]; rfl
  unfold raiseStmt
  refine wpAny_bind (wpAny_mono h (fun v s₁ h₁ => ?_) fun _ _ x => x)
  obtain ⟨e, t, dd, rfl, he, ⟨nm, q, bs, sn, sub, ab, col, dd', k0, k1, k2, k3, k5, hC⟩, hE⟩ := h₁
  obtain ⟨hp, g, d, tk, os⟩ := s₁
  repeat (first | with_reducible refine wpAny_loadPart_at he ?_ | with_reducible refine wpAny_loadPart_at hC ?_ | (with_reducible refine wpAny_isSubtype_exc hC ?_; rw [hcB]) | wp_step)
  exact wpAny_raiseNew_none hh hE
theorem exec_raise {s : Shared} {ex : Expr} {pos : Pos} {Q : Flow → Shared → Prop} (hh : A.handled = none) (h : wpAny M A (eval ex env) (RaiseQ E) E s) : wpAny M A (exec (.Raise (some ex) none pos) env) Q E s := by
  rw [arm_exec_Raise]
  refine wpAny_bind (wpAny_standAt ?_)
  exact raise_cas hh (wpAny_bind (wpAny_mono h (fun v s₁ h₁ => wpAny_bind (wpAny_standAt (wpAny_pure h₁))) fun _ _ x => x))
end
theorem under_call (dp un : Nat) (gd : Option (List Code)) (cn : Str) (cs : Scope) (L a : Addr) (ccd : Value) (cl : List (Str × Addr)) (outer : List Env) (rest : List Value) :
    ∃ u, (ktrTop dp un gd cn cs L a ccd cl outer).under (.builtin "type.__call__" ⟨.ref 31 :: rest, []⟩) = ktrTop (dp + 1) (un + u) gd cn cs L a ccd cl outer ∧ u ≤ 3 := by
  refine ⟨_, rfl, ?_⟩
  show 1 ≤ 3
  decide
section
variable {w : World} {mean : ExcName → Option Value} {mg mb : Str → Option Value}
  {dp un : Nat} {gd : Option (List Code)} {cn : Str} {cs : Scope} {a : Addr} {ccd : Value} {cl : List (Str × Addr)} {outer : List Env} {A₀ : Around} {base h₀ : Heap} {L : Addr} {m : Str → Option Value} {s : Shared} {Q E : Value → Shared → Prop} {news : List (Addr × Obj)} {tk1 tk2 : Tok}
/-- CasFail(..) makes an object of the class with its own table -/
theorem new_cas (B : Below A₀ base outer h₀) (F : Fr h₀ L s.heap m) (X : (Mine.hd.heap_39 w.params).In h₀) (N : News h₀ L s.heap news) (T : Top Mine.hd.view_39 (looseW Mine.hd.view_39 []) mean mg mb h₀) (hk : cs.kind = .function) (hd : dp + 3 < recursionLimit) (hu : un + 8 * 3 + 100 < cLine)
    (ret : ∀ e d t od mm tk h' tk', Fr h₀ L h' m → News h₀ L h' ((d, od) :: news) → h'.get? e = some (excO t (some d)) → h₀.get? e = none → e ≠ L → d ≠ e → (∀ q ∈ news, q.1 ≠ e) → h'.Ns d mm → mm (Str.ofString "kind") = some (.str kindS tk) → Q (.ref e) { s with heap := h', toks := tk' }) :
    wpAny (model PySem.Challenge.rw_pq0213_01.row.prog w) (ktrTop dp un gd cn cs L a ccd cl outer) (call (.ref 31) [.str kindS tk1, .str textS tk2]) Q E s := by
  obtain ⟨nm, q, bs, sn, sub, ab, col, dd, k0, k1, k2, k3, k5, hC⟩ := casfail_obj w
  obtain ⟨mN, hns, hin, _⟩ := casfail_ns (X.keeps F.keep)
  obtain ⟨oI, hoI, hcI⟩ := casfail_fn w
  obtain ⟨hp, gg, d0, tk0, os⟩ := s
  refine wpAny_call_exc_init PySem.F.excBase_Exception (F.keep _ _ (X _ _ hC)) hns hin (F.keep _ _ (X _ _ hoI)) hcI (fun h' e hm => ?_) (by show 2 ≤ sizeLine; rw [sizeLine_eq]; decide)
  obtain ⟨u, hu1, hu2⟩ := under_call dp un gd cn cs L a ccd cl outer [.str kindS tk1, .str textS tk2]
  rw [hu1]
  obtain ⟨t, ht, _, _⟩ := hm.there
  have heL : e ≠ L := fun z => by have := F.ns.lt; obtain ⟨o, _, _, ho, _⟩ := F.ns; have q := hm.new; rw [z, ho] at q; cases q
  have he0 : h₀.get? e = none := by
    cases q : h₀.get? e with
    | none => rfl
    | some o => have := F.keep _ _ q; rw [hm.new] at this; cases this
  refine init_ok w mean mg mb e t tk1 tk2 (dp + 1) (un + u) gd cn cs a ccd cl outer A₀ base h₀ L m _ _ E B (F.keeps hm.keeps) X T hk (by omega) (by omega) he0 heL ht trivial fun v ob' h2 tk' hkb hob ho => ?_
  obtain ⟨rfl, d, t', tk, mm, rfl, hd0, hde, hNs, hkind⟩ := ho
  obtain ⟨od, es, ep, hod, hodd, hrest⟩ := id hNs
  have hdn : hp.get? d = none := by
    cases q : hp.get? d with
    | none => rfl
    | some o => have := hm.keeps _ _ q; rw [hd0] at this; cases this
  have hdL : d ≠ L := fun z => by obtain ⟨o, _, _, ho, _⟩ := F.ns; rw [z, ho] at hdn; cases hdn
  have hd00 : h₀.get? d = none := by
    cases q : h₀.get? d with
    | none => rfl
    | some o => have := F.keep _ _ q; rw [hdn] at this; cases this
  have hne : ∀ p ∈ news, p.1 ≠ e := fun p hp z => by have := (N p hp).1; rw [z, hm.new] at this; cases this
  refine ⟨rfl, ret e d t' od mm tk h2 tk' (fr_but (F.keeps hm.keeps) hkb heL he0) (fun p hp => ?_) hob he0 heL hde hne hNs hkind⟩
  rcases List.mem_cons.mp hp with rfl | hp
  · exact ⟨hod, hdL, hd00⟩
  · exact ⟨hkb _ _ (hne p hp) (hm.keeps _ _ (N p hp).1), (N p hp).2⟩
end
end
-- chkr
section
open PySem PySem.W PySem.Spec PySem.Calls PyProof.Rows
set_option maxRecDepth 100000
local macro_rules | `(tactic| walk_at "p_none0") => `(tactic| fail)
def SpecR (w : World) (mean : ExcName → Option Value) (mg mb : Str → Option Value) (f : Addr) (d : Nat) (vals : List Value) (args : Heap → Prop) : Prop :=
  ∀ (dp un : Nat) (gd : Option (List Code)) (cn : Str) (cs : Scope) (a : Addr) (ccd : Value) (cl : List (Str × Addr)) (outer : List Env) (A₀ : Around) (base h₀ : Heap) (L : Addr) (m : Str → Option Value) (s : Shared) (Q E : Value → Shared → Prop),
    Below A₀ base outer h₀ → Fr h₀ L s.heap m → (Mine.hd.heap_39 w.params).In h₀ → Top Mine.hd.view_39 (looseW Mine.hd.view_39 []) mean mg mb h₀ → cs.kind = .function → dp + d < recursionLimit → un + 8 * d + 100 < cLine →
    args s.heap →
    (∀ e dd od mm tk news h' tk', FlyD base s.heap (envX cn cs L a ccd cl :: outer) e 31 dd ((dd, od) :: news) h' → s.heap.UpToSlots h' → LCg.NsObj od mm → mm (Str.ofString "kind") = some (.str kindS tk) → E (.ref e) { s with heap := h', toks := tk' }) →
    wpAny (model PySem.Challenge.rw_pq0213_01.row.prog w) (ktrTop dp un gd cn cs L a ccd cl outer) (call (.ref f) vals) Q E s
theorem nsObj_of {h : Heap} {d : Addr} {od : Obj} {mm : Str → Option Value} (h1 : h.get? d = some od) (h2 : h.Ns d mm) : LCg.NsObj od mm := by
  obtain ⟨o, es, ep, h3, r⟩ := h2
  rw [h1] at h3
  obtain rfl := Option.some.inj h3
  exact ⟨es, ep, r⟩
set_option maxHeartbeats 2000000 in
theorem chkr_ok (w : World) (mean : ExcName → Option Value) (mg mb : Str → Option Value) (l : Addr) : SpecR w mean mg mb 84 4 [.ref l] (fun h => LAt h l []) := by
  unfold SpecR
  k_fill
  w_on
  w_strict (
    intro dp un gd cn cs a ccd cl outer A₀ base h₀ L m s Q E B F X T hk hd hu ha hret
    obtain ⟨vs, hl, hi⟩ := ha
    cases hi
    refine wpAny_call ?_
    k_dflt (refine' code_pure (binds := [(Str.ofString "p", .ref l)]) ?k1 ?k2 ?k3 ?k5 ?kA ?kF ?kK ?k6 ?k7 ?k8 ?k9 ?kB ?_ ?c2 ?c3 ?c4 ?c5; (((case kA => exact rfl); (case kF => exact rfl); (case kK => assumption); (case k1 => k_asm); (case k2 => k_asm); (case k3 => k_asm); (case k5 => k_asm); (case k6 => k_is); (case k7 => k_is); (case k8 => ktr_room); (case k9 => exact BindsTo.of_eq rfl); (case c5 => decide); (case kB => exact locs rfl); (case c2 => exact rfl); (case c3 => exact rfl); (case c4 => exact rfl); k_whole; intro L' h' F' N' B' X' T'; (try dsimp only); (try k_fold))))
    (repeat' (first | ((fail_if_success (with_reducible show wpAny _ _ (exec (Stmt.Raise _ _ _) _) _ _ _)); (fail_if_success (with_reducible show wpAny _ _ (call (Value.ref 31) _) _ _ _)); first | (k_unfold; (try dsimp only)) | (k_end; wrow_close) | walk1 | (dsimp only; walk1) | (leave1; walk_say "STEP leave1"; try dsimp only)) | fail "no step"))
    k_dflt (refine exec_raise (by rfl) ?_)
    (repeat' (first | ((fail_if_success (with_reducible show wpAny _ _ (exec (Stmt.Raise _ _ _) _) _ _ _)); (fail_if_success (with_reducible show wpAny _ _ (call (Value.ref 31) _) _ _ _)); first | (k_unfold; (try dsimp only)) | (k_end; wrow_close) | walk1 | (dsimp only; walk1) | (leave1; walk_say "STEP leave1"; try dsimp only)) | fail "no step"))
    k_dflt (refine' new_cas ?kB ?kF ?kX ?kN ?kT ?kk ?kd ?ku ?_; (case kF => k_asm); (case kB => k_asm); (case kX => k_asm); (case kN => k_asm); (case kT => k_asm); (case kk => exact rfl); (case kd => ktr_room); (case ku => ktr_units); k_whole)
    intro e9 d9 t9 od9 mm9 tk9 h9 tk9' F9 N9 he9 hg9 heL9 hde9 hne9 hNs9 hki9
    (rename Below _ _ _ _ => B9)
    (rename Frag.In _ _ => X9)
    obtain ⟨nm, q, bs, sn, sub, ab, col, dd, k0, k1, k2, k3, k5, hC⟩ := casfail_obj w
    refine ⟨e9, t9, some d9, rfl, he9, ⟨nm, q, bs, sn, sub, ab, col, dd, k0, k1, k2, k3, k5, F9.keep _ _ (X9 _ _ hC)⟩, ?_⟩
    k_dflt (refine leave_firstD B9 F9 N9 he9 rfl rfl rfl rfl rfl hg9 heL9 (fun q hq => ?_) (fun h' hfly hu => ?_))
    · rw [List.mem_singleton.mp hq]; exact hde9
    · exact hret e9 d9 od9 mm9 tk9 [] h' _ hfly hu (nsObj_of (N9 _ (.head _)).1 hNs9) hki9)
end
-- psrr
section
open PySem PySem.W PySem.Spec PySem.Calls PyProof.Rows
set_option maxRecDepth 100000
theorem lat_keep {h h' : Heap} {L l : Addr} {m : Str → Option Value} {ns : List Int} (F : Fr h L h' m) (x : LAt h l ns) : LAt h' l ns := by
  obtain ⟨vs, hl, hi⟩ := x
  exact ⟨vs, hl.at fun o e => F.keep _ _ e, hi⟩
set_option maxHeartbeats 2000000 in
theorem psrr_ok (w : World) (mean : ExcName → Option Value) (mg mb : Str → Option Value) (l l2 : Addr) : SpecR w mean mg mb 105 5 [.ref l, .ref l2] (fun h => LAt h l2 []) := by
  unfold SpecR
  k_fill
  w_on
  w_strict (
    intro dp un gd cn cs a ccd cl outer A₀ base h₀ L m s Q E B F X T hk hd hu ha hret
    refine wpAny_call ?_
    k_dflt (refine' code_pure (binds := [(Str.ofString "a", .ref l), (Str.ofString "b", .ref l2)]) ?k1 ?k2 ?k3 ?k5 ?kA ?kF ?kK ?k6 ?k7 ?k8 ?k9 ?kB ?_ ?c2 ?c3 ?c4 ?c5; (((case kA => exact rfl); (case kF => exact rfl); (case kK => assumption); (case k1 => k_asm); (case k2 => k_asm); (case k3 => k_asm); (case k5 => k_asm); (case k6 => k_is); (case k7 => k_is); (case k8 => ktr_room); (case k9 => exact BindsTo.of_eq rfl); (case c5 => decide); (case kB => exact locs rfl); (case c2 => exact rfl); (case c3 => exact rfl); (case c4 => exact rfl); k_whole; intro L' h' F' N' B' X' T'; (try dsimp only); (try k_fold))))
    (rename Below _ _ _ _ => B9)
    (rename Fr _ _ _ _ => F9)
    (repeat' (first | ((fail_if_success (with_reducible show wpAny _ _ (call (Value.ref _) _) _ _ _)); first | (k_unfold; (try dsimp only)) | (k_end; wrow_close) | walk1 | (dsimp only; walk1) | (leave1; walk_say "STEP leave1"; try dsimp only)) | fail "no step"))
    k_dflt (refine' chkr_ok _ _ _ _ _ _ _ _ _ _ _ _ _ _ _ _ _ _ _ _ _ _ ?kB ?kF ?kX ?kT ?kk ?kd ?ku ?ka ?_; (case kF => k_asm); (case kB => k_asm); (case kX => k_asm); (case kT => k_asm); (case kk => exact rfl); (case kd => ktr_room); (case ku => ktr_units); k_whole)
    case ka => exact lat_keep F9 ha
    intro e9 d9 od9 mm9 tk9 news9 h9 tk9' R9 hu9 hn9 hk9
    k_dflt (refine leave_nextD B9 F9 R9 hu9 (fun h' R' hu' => ?_))
    exact hret e9 d9 od9 mm9 tk9 news9 h' _ R' hu' hn9 hk9)
end
-- ref
section
open PySem PySem.W PySem.Spec PySem.Calls PyProof.Rows
set_option maxRecDepth 100000
local macro_rules | `(tactic| walk_at "p_none0") => `(tactic| fail)
set_option maxHeartbeats 2000000 in
theorem ref_ok (w : World) (mean : ExcName → Option Value) (mg mb : Str → Option Value) (l : Addr) (dp un : Nat) (gd : Option (List Code)) (cn : Str) (cs : Scope) (a : Addr) (ccd : Value) (A₀ : Around) (base : Heap) (L : Addr) (m : Str → Option Value) (s : Shared) (Q E : Value → Shared → Prop) (news : List (Addr × Obj))
    (B : Below A₀ base [] base) (F : Fr base L s.heap m) (X : (Mine.hd.heap_39 w.params).In base) (N : News base L s.heap news) (T : Top Mine.hd.view_39 (looseW Mine.hd.view_39 []) mean mg mb base) (hk : cs.kind = .function) (hd : dp + 8 < recursionLimit) (hu : un + 8 * 8 + 100 < cLine)
    (hret : ∀ h' tk', Fr base L h' m → News base L h' news → Q (.bool true) { s with heap := h', toks := tk' }) :
    wpAny (model PySem.Challenge.rw_pq0213_01.row.prog w) (ktrTop dp un gd cn cs L a ccd [] []) (call (.ref 151) [.ref l]) Q E s := by
  revert B F X N T hk hd hu hret
  k_fill
  w_on
  w_strict (
    intro B F X N T hk hd hu hret
    refine wpAny_call ?_
    k_dflt (refine' code_defS0 (binds := [(Str.ofString "top", .ref l)]) ?k1 ?k2 ?k3 ?k4 ?k5 ?kA ?k6 ?k7 ?k8 ?k9 ?kB ?_ ?cK ?c2 ?c3 ?c4 ?c5; (case kA => exact rfl); (case k2 => k_asm); (case k1 => k_asm); (case k3 => k_asm); (case k4 => k_asm); (case k5 => k_asm); (case k6 => k_is); (case k7 => k_is); (case k8 => ktr_room); (case k9 => exact BindsTo.of_eq rfl); (case kB => exact locs rfl); (case cK => exact hk); (case c2 => exact rfl); (case c3 => exact rfl); (case c4 => exact rfl); (case c5 => decide); k_whole)
    intro g' L' h' FG' F' N' B' X' T' D'
    (try dsimp only)
    (try k_fold)
    (repeat' (first | ((fail_if_success (with_reducible show wpAny _ _ (call (Value.ref _) _) _ _ _)); first | (k_unfold; (try dsimp only)) | (k_end; wrow_close) | walk1 | (dsimp only; walk1) | (leave1; walk_say "STEP leave1"; try dsimp only)) | fail "no step"))
    (rename Fr _ _ _ _ => F9)
    (rename News _ _ _ _ => N9)
    k_dflt (refine' psrr_ok _ _ _ _ _ _ _ _ _ _ _ _ _ _ _ _ _ _ _ _ _ _ _ ?kB ?kF ?kX ?kT ?kk ?kd ?ku ?ka ?_; (case kF => k_asm); (case kB => k_asm); (case kX => k_asm); (case kT => k_asm); (case kk => exact rfl); (case kd => ktr_room); (case ku => ktr_units); k_whole)
    case ka => exact lat_news N9 (.head _) .nil
    intro e9 d9 od9 mm9 tk9 news9 h9 tk9' R9 hu9 hn9 hk9
    (try dsimp only)
    k_dflt (refine caughtD R9 F9 B' N9 hu9 X T D' KtsTurn.refl ?ex ?q ?k)
    case ex => k_is
    case q => rfl
    intro h5 g5 tk5 oe5 T5 F5 N5 c1 c2 c3 B5 X5 P5 D5
    clear F9 N9
    (try k_sweep)
    (try dsimp only)
    (try k_fold)
    (repeat' (first | ((fail_if_success (with_reducible show wpAny _ _ (getAttr _ _ _) _ _ _)); first | (k_unfold; (try dsimp only)) | (k_end; wrow_close) | walk1 | (dsimp only; walk1) | (leave1; walk_say "STEP leave1"; try dsimp only)) | fail "no step"))
    obtain ⟨nm, q, bs, sn, sub, ab, col, dd, k0, k1, k2, k3, k5, hC⟩ := casfail_obj w
    obtain ⟨mN, hns, _, hna, _, _, hng, hnh⟩ := casfail_ns (X5.keeps F5.keep)
    obtain ⟨vs5, c2⟩ := c2
    k_dflt (refine exc_load_attr (F5.keep _ _ (X5 _ _ hC)) hns hng hnh hna exc_noKind (N5 _ (.head _)).1 c1 (fun c q => by rw [c2] at q; cases q) c3 (hn9.ns (N5 _ (.tail _ (List.mem_append_left _ (.head _)))).1) hk9 (by rfl) ?_)
    have N6 := kst_newsOf (l' := news) N5 (fun p hp => .tail _ (List.mem_append_right _ (.tail _ hp)))
    clear N5 hns hng hnh hna hC
    (try dsimp only)
    (try k_fold)
    (repeat' (first | ((fail_if_success (with_reducible show wpAny _ _ (getAttr _ _ _) _ _ _)); first | (k_unfold; (try dsimp only)) | (k_end; wrow_close) | walk1 | (dsimp only; walk1) | (leave1; walk_say "STEP leave1"; try dsimp only)) | fail "no step"))
    (rename Fr base L _ m => kF)
    (rename News base L _ news => kN)
    have he : (kindS == Str.ofString "division by zero") = true := by decide +kernel
    exact (show Q (.bool (kindS == Str.ofString "division by zero")) _ from he ▸ hret _ _ kF kN))
end
-- law
section
open PySem PySem.W PySem.Spec PySem.Calls PyProof.Rows
set_option maxRecDepth 100000
section
variable {w : World} {mean : ExcName → Option Value} {mg mb : Str → Option Value} {f : Addr} {d : Nat} {vals : List Value} {args : Heap → Prop}
  {dp un : Nat} {gd : Option (List Code)} {cn : Str} {cs : Scope} {a : Addr} {ccd : Value} {cl : List (Str × Addr)} {outer : List Env} {A₀ : Around} {base h₀ : Heap} {L : Addr} {m : Str → Option Value} {s : Shared} {Q E : Value → Shared → Prop} {news : List (Addr × Obj)}
theorem spec_useBool {x : Bool} (C : Spec w mean mg mb f d vals args (IsB x))
    (B : Below A₀ base outer h₀) (F : Fr h₀ L s.heap m) (X : (Mine.hd.heap_39 w.params).In h₀) (N : News h₀ L s.heap news) (T : Top Mine.hd.view_39 (looseW Mine.hd.view_39 []) mean mg mb h₀) (hk : cs.kind = .function) (ha : args s.heap) (hd : dp + d < recursionLimit) (hu : un + 8 * d + 100 < cLine)
    (ret : ∀ h' tk', Fr h₀ L h' m → News h₀ L h' news → Q (.bool x) { s with heap := h', toks := tk' }) :
    wpAny (model PySem.Challenge.rw_pq0213_01.row.prog w) (ktrTop dp un gd cn cs L a ccd cl outer) (call (.ref f) vals) Q E s := by
  refine C dp un gd cn cs a ccd cl outer A₀ base h₀ L m s Q E B F X T hk hd hu ha fun v h' tk' k o => ?_
  have e : v = .bool x := o
  subst e
  exact ret h' tk' (fr_kept F k) (news_kept N k)
theorem spec_useRow {bx sl : Addr} {ob : Obj} {ss : List Int} {most high : Int} {g : Obj → List (Addr × Obj)} (C : SpecB w mean mg mb f d vals bx ob args (RowOut sl ss most high))
    (B : Below A₀ base outer h₀) (F : Fr h₀ L s.heap m) (X : (Mine.hd.heap_39 w.params).In h₀) (N : News h₀ L s.heap news) (T : Top Mine.hd.view_39 (looseW Mine.hd.view_39 []) mean mg mb h₀) (hk : cs.kind = .function) (U : UpdF bx ob news g) (ha : args s.heap) (hd : dp + d < recursionLimit) (hu : un + 8 * d + 100 < cLine)
    (ret : ∀ i ti z tz n r us k rs h' tk', Fr h₀ L h' m → News h₀ L h' ((r, listOf (List.toArray us) k) :: g (boxOf sl i ti z tz n)) → LCg.Off1 r news → 0 ≤ i → i ≤ (ss.length : Int) → IntsAre us rs → Trimmed rs → (rs.length : Int) ≤ most → (∀ y ∈ rs, -high ≤ y ∧ y ≤ high) → Q (.ref r) { s with heap := h', toks := tk' }) :
    wpAny (model PySem.Challenge.rw_pq0213_01.row.prog w) (ktrTop dp un gd cn cs L a ccd cl outer) (call (.ref f) vals) Q E s := by
  refine spec_useB C B F X N T hk U ha hd hu fun v ob' h' tk' F' N' kN o => ?_
  obtain ⟨i, ti, z, tz, n, r, us, k, rs, rfl, h0, h1, rfl, hr, hr', hi, ht, hl, hb⟩ := o
  refine ret i ti z tz n r us k rs h' tk' F' (fun p hp => ?_) (off1_of fun p hp e => by have := kN p hp; rw [e, hr] at this; cases this) h0 h1 hi ht hl hb
  rcases List.mem_cons.mp hp with rfl | hp
  · refine ⟨hr', fun e => ?_, ?_⟩
    · obtain ⟨oL, _, _, hL, _⟩ := F.ns
      have e' : r = L := e
      rw [← e', hr] at hL; cases hL
    · cases q : h₀.get? r with
      | none => rfl
      | some o' => have := F.keep _ _ q; rw [hr] at this; cases this
  · exact N' p hp
end
def EndF (h₀ : Heap) (L : Addr) (m : Str → Option Value) (news : List (Addr × Obj)) (s : Shared) (f : Flow) (s' : Shared) : Prop :=
  f = .next ∧ ∃ h tk, s' = { s with heap := h, toks := tk } ∧ Fr h₀ L h m ∧ News h₀ L h news
theorem endF_ {h₀ : Heap} {L : Addr} {m : Str → Option Value} {news nw : List (Addr × Obj)} {s : Shared} {h : Heap} {tk : Nat} (F : Fr h₀ L h m) (N : News h₀ L h nw) (hs : ∀ p ∈ news, p ∈ nw) : EndF h₀ L m news s .next { s with heap := h, toks := tk } := ⟨rfl, h, tk, rfl, F, fun p hp => N p (hs p hp)⟩
theorem cut_flow {M : Model} {A : Around} {t : Sem Flow} {Q : Flow → Shared → Prop} {E : Value → Shared → Prop} {s : Shared} {h₀ : Heap} {L : Addr} {m : Str → Option Value} {news : List (Addr × Obj)} (F : Fr h₀ L s.heap m) (N : News h₀ L s.heap news)
    (test : wpAny M A t (EndF h₀ L m news s) E s) (rest : ∀ h tk, Fr h₀ L h m → News h₀ L h news → Q .next { s with heap := h, toks := tk }) : wpAny M A t Q E s :=
  have _ := F
  have _ := N
  wpAny_mono test (fun b s' e => by obtain ⟨rfl, h, tk, rfl, F', N'⟩ := e; exact rest h tk F' N') fun _ _ e => e
local macro_rules | `(tactic| walk_at "p_preW") => `(tactic| first | assumption | omega | decide | (k_ne; done) | ((simp only [List.length_take]); omega))
local macro_rules | `(tactic| walk_at "p_useW") => `(tactic| ((case kF => k_asm); (case kB => k_asm); (case kX => k_asm); (case kN => k_asm); (case kT => k_asm); (case kk => first | exact rfl | assumption); (try (case kU => k_updF)); (case ka => walk_at "p_args"); (case kd => ktr_room); (case ku => ktr_units); (try (case h1 => walk_at "p_preW")); (try (case h2 => walk_at "p_preW")); (try (case h3 => walk_at "p_preW")); (try (case h4 => walk_at "p_preW")); (try (case h5 => walk_at "p_preW")); (try (case h6 => walk_at "p_preW")); (try (case h7 => walk_at "p_preW")); (try (case h8 => walk_at "p_preW")); k_whole))
theorem topOk_of {rs1 rs2 : List Int} {x : Int} (hl1 : (rs1.length : Int) ≤ 5) (hT1 : Trimmed rs1) (hb1 : ∀ y ∈ rs1, -6 ≤ y ∧ y ≤ 6) (hl2 : (rs2.length : Int) ≤ 3) (hb2 : ∀ y ∈ rs2, -4 ≤ y ∧ y ≤ 4) (hx0 : 0 ≤ x) (hx1 : x < 4) : TopOk rs1 (rs2 ++ [x + 1]) where
  la := by omega
  ba := fun y hy => by have := hb1 y hy; omega
  ta := hT1
  lb := by rw [List.length_append, List.length_singleton]; omega
  lb0 := by rw [List.length_append, List.length_singleton]; omega
  bb := fun y hy => by
    rcases List.mem_append.mp hy with h | h
    · have := hb2 y h; omega
    · rw [List.mem_singleton.mp h]; omega
  lead := by simp; omega
theorem law_trim {h₀ h : Heap} {L : Addr} {p1 p2 p3 p4 p5 p6 p7 : Addr × Obj} (N : News h₀ L h [p1, p2, p3, p4, p5, p6, p7]) : News h₀ L h [p2, p5, p6, p7] := fun p hp => N p (by
  simp only [List.mem_cons] at hp ⊢
  rcases hp with h | h | h | h | h <;> simp [h])
theorem quot_some_ok (w : World) (mean : ExcName → Option Value) (mg mb : Str → Option Value) (l l2 : Addr) (ns ms q : List Int) (hin : InOk ns ms) (hz : zx ns ms = some q) :
    Spec w mean mg mb 137 2 [.ref l, .ref l2] (fun h => LAt h l ns ∧ LAt h l2 ms) (NewL q) := by
  have h := quot_ok w mean mg mb l l2 ns ms hin
  have e : ZxOut ns ms = NewL q := by
    funext h h' v; unfold ZxOut; rw [hz]
  rw [e] at h
  exact h
theorem quot_none_ok (w : World) (mean : ExcName → Option Value) (mg mb : Str → Option Value) (l l2 : Addr) (ns ms : List Int) (hin : InOk ns ms) (hz : zx ns ms = none) :
    Spec w mean mg mb 137 2 [.ref l, .ref l2] (fun h => LAt h l ns ∧ LAt h l2 ms) IsNone := by
  have h := quot_ok w mean mg mb l l2 ns ms hin
  have e : ZxOut ns ms = IsNone := by
    funext h h' v; unfold ZxOut; rw [hz]; rfl
  rw [e] at h
  exact h
theorem zdiv_true (w : World) (mean : ExcName → Option Value) (mg mb : Str → Option Value) (l l2 : Addr) (ns ms : List Int) {q : List Int} (hin : InOk ns ms) (hz : zx ns ms = some q) :
    Spec w mean mg mb 98 6 [.ref l2, .ref l] (fun h => LAt h l2 ms ∧ LAt h l ns) (IsB true) := by
  have h := zdivides_ok w mean mg mb l l2 ns ms hin
  rw [hz] at h
  exact h
theorem zdiv_false (w : World) (mean : ExcName → Option Value) (mg mb : Str → Option Value) (l l2 : Addr) (ns ms : List Int) (hin : InOk ns ms) (hz : zx ns ms = none) :
    Spec w mean mg mb 98 6 [.ref l2, .ref l] (fun h => LAt h l2 ms ∧ LAt h l ns) (IsB false) := by
  have h := zdivides_ok w mean mg mb l l2 ns ms hin
  rw [hz] at h
  exact h
theorem law_ints {vs : List Value} {ns : List Int} (_h : IntsAre vs ns) {P : Prop} (k : ∀ vs', vs' = vs → P) : P := k _ rfl
theorem law_names {h₀ h : Heap} {L w b bx sl : Addr} {p1 p4 : Addr × Obj} {ow ob obx osl : Obj} (_N : News h₀ L h [p1, (w, ow), (b, ob), p4, (bx, obx), (sl, osl)]) {P : Prop} (k : ∀ w' b' bx' sl', w' = w → b' = b → bx' = bx → sl' = sl → P) : P := k _ _ _ _ rfl rfl rfl rfl
theorem law_bot {h₀ h : Heap} {L : Addr} {p1 p2 p3 p4 p5 p6 : Addr × Obj} (N : News h₀ L h [p1, p2, p3, p4, p5, p6]) : News h₀ L h [p3] := fun p hp => N p (by rw [List.mem_singleton.mp hp]; simp)
theorem law_wb {h₀ h : Heap} {L : Addr} {p1 p2 p3 p4 p5 p6 p7 : Addr × Obj} (N : News h₀ L h [p1, p2, p3, p4, p5, p6, p7]) : News h₀ L h [p3, p4] := fun p hp => N p (by
  simp only [List.mem_cons] at hp ⊢
  rcases hp with h | h | h <;> simp [h])
def EndW (h₀ : Heap) (L : Addr) (m : Str → Option Value) (news : List (Addr × Obj)) (bot : List Int) (s : Shared) (f : Flow) (s' : Shared) : Prop :=
  f = .next ∧ ∃ h tk r us n W, ∃ m' : Str → Option Value, s' = { s with heap := h, toks := tk } ∧ Fr h₀ L h m' ∧ News h₀ L h ((r, listOf (List.toArray us) n) :: news) ∧ IntsAre us W ∧ InOk W bot ∧ m' (Str.ofString "whole") = some (.ref r) ∧ ∀ y, y ≠ Str.ofString "whole" → m' y = m y
theorem endW_ {h₀ : Heap} {L : Addr} {m m' : Str → Option Value} {news nw : List (Addr × Obj)} {bot : List Int} {s : Shared} {h : Heap} {tk n : Nat} {r : Addr} {us : List Value} {W : List Int} (F : Fr h₀ L h m') (N : News h₀ L h nw) (hs : ∀ p ∈ (r, listOf (List.toArray us) n) :: news, p ∈ nw) (hi : IntsAre us W) (hin : InOk W bot)
    (h1 : m' (Str.ofString "whole") = some (.ref r)) (h2 : ∀ y, y ≠ Str.ofString "whole" → m' y = m y) : EndW h₀ L m news bot s .next { s with heap := h, toks := tk } := ⟨rfl, h, tk, r, us, n, W, m', rfl, F, fun p hp => N p (hs p hp), hi, hin, h1, h2⟩
theorem cut_whole {M : Model} {A : Around} {t : Sem Flow} {Q : Flow → Shared → Prop} {E : Value → Shared → Prop} {s : Shared} {h₀ : Heap} {L : Addr} {m : Str → Option Value} {news : List (Addr × Obj)} {bot : List Int} (_F : Fr h₀ L s.heap m) (_N : News h₀ L s.heap news)
    (test : wpAny M A t (EndW h₀ L m news bot s) E s)
    (rest : ∀ h tk r us n W, Fr h₀ L h (fun y => if y = Str.ofString "whole" then some (.ref r) else m y) → News h₀ L h ((r, listOf (List.toArray us) n) :: news) → IntsAre us W → InOk W bot → Q .next { s with heap := h, toks := tk }) : wpAny M A t Q E s :=
  wpAny_mono test (fun b s' e => by
    obtain ⟨rfl, h, tk, r, us, n, W, m', rfl, F', N', hi, hin, h1, h2⟩ := e
    refine rest h tk r us n W ?_ N' hi hin
    have em : (fun y => if y = Str.ofString "whole" then some (.ref r) else m y) = m' := by
      funext y
      by_cases c : y = Str.ofString "whole"
      · rw [if_pos c, c, h1]
      · rw [if_neg c, h2 y c]
    rw [em]; exact F') fun _ _ e => e
theorem gen_post {M : Model} {A : Around} {t : Sem Flow} {env : Env} {s : Shared} {base : Heap} {Q₀ : Flow → Shared → Prop} {G₀ : Value → Shared → Prop} {L : Addr} {h0 : Heap} {m0 : Str → Option Value} (_F : Fr base L h0 m0)
    (R : ∀ (Q : Flow → Shared → Prop) (G : Value → Shared → Prop), (∀ h tk m, Fr base L h m → Q (.ret (.bool true)) { s with heap := h, toks := tk }) → wpAny M A t Q (fun e s' => wpAny M A (leaving env e) (fun _ s'' => G e s'') (fun e' s'' => G e' s'') s') s)
    (h : ∀ h tk m, Fr base L h m → Q₀ (.ret (.bool true)) { s with heap := h, toks := tk }) : wpAny M A t Q₀ (fun e s' => wpAny M A (leaving env e) (fun _ s'' => G₀ e s'') (fun e' s'' => G₀ e' s'') s') s := R _ _ h
set_option maxHeartbeats 4000000 in
theorem law_walk : PySem.Challenge.rw_pq0213_01.Holds := Mine.hd (by
  w_on
  w_strict (
    k_go0
    (all_goals try k_fold)
    (rename Fr _ _ _ _ => F0)
    refine gen_post F0 ?R ?fin
    case fin =>
      intro h9 tk9 m9 hk9
      clear F0
      (try dsimp only)
      first | (k_end; wrow_close) | walk1
    case R =>
      intro Q9 G9 hret9
      (try dsimp only)
      (try k_fold)
      (repeat' (first | ((fail_if_success (with_reducible show wpAny _ _ (call (Value.ref _) _) _ _ _)); (fail_if_success (with_reducible show wpAny _ _ (exec (Stmt.While _ _ _ _) _) _ _ _)); first | (k_unfold; (try dsimp only)) | (k_end; wrow_close) | walk1 | (dsimp only; walk1) | (leave1; walk_say "STEP leave1"; try dsimp only)) | fail "no step"))
      k_dflt (refine' spec_useRow (row_ok _ _ _ _ _ _ _ _ _ _ _ _ _ _ _ _ ?h1 ?h2 ?h3 ?h4 ?h5 ?h6 ?h7 ?h8) ?kB ?kF ?kX ?kN ?kT ?kk ?kU ?ka ?kd ?ku ?_; walk_at "p_useW")
      intro i1 ti1 z1 tz1 n1 r1 us1 k1 rs1 h1 tk1 F1 N1 o1 hi10 hi11 hI1 hT1 hl1 hb1
      simp only [LCg.Off1, and_true] at o1
      (try dsimp only at N1)
      (try k_sweep)
      (try dsimp only)
      (try k_fold)
      (repeat' (first | ((fail_if_success (with_reducible show wpAny _ _ (call (Value.ref _) _) _ _ _)); (fail_if_success (with_reducible show wpAny _ _ (exec (Stmt.While _ _ _ _) _) _ _ _)); first | (k_unfold; (try dsimp only)) | (k_end; wrow_close) | walk1 | (dsimp only; walk1) | (leave1; walk_say "STEP leave1"; try dsimp only)) | fail "no step"))
      k_dflt (refine' spec_useRow (row_ok _ _ _ _ _ _ _ _ _ _ _ _ _ _ _ _ ?h1 ?h2 ?h3 ?h4 ?h5 ?h6 ?h7 ?h8) ?kB ?kF ?kX ?kN ?kT ?kk ?kU ?ka ?kd ?ku ?_; walk_at "p_useW")
      intro i2 ti2 z2 tz2 n2 r2 us2 k2 rs2 h2 tk2 F2 N2 o2 hi20 hi21 hI2 hT2 hl2 hb2
      simp only [LCg.Off1, and_true] at o2
      (try dsimp only at N2)
      (try k_sweep)
      (try dsimp only)
      (try k_fold)
      (repeat' (first | ((fail_if_success (with_reducible show wpAny _ _ (call (Value.ref _) _) _ _ _)); (fail_if_success (with_reducible show wpAny _ _ (exec (Stmt.While _ _ _ _) _) _ _ _)); first | (k_unfold; (try dsimp only)) | (k_end; wrow_close) | walk1 | (dsimp only; walk1) | (leave1; walk_say "STEP leave1"; try dsimp only)) | fail "no step"))
      k_dflt (refine' spec_useB (take_ok _ _ _ _ _ _ _ _ _ _ _ _ _ _ ?h1 ?h2 ?h3 ?h4 ?h5 ?h6) ?kB ?kF ?kX ?kN ?kT ?kk ?kU ?ka ?kd ?ku ?_; walk_at "p_useW")
      intro v3 ob3 h3 tk3 F3 N3 kN3 hO3
      obtain ⟨i3, ti3, z3, tz3, n3, x3, t3, rfl, hi30, hi31, rfl, hx30, hx31⟩ := hO3
      clear kN3
      (try dsimp only at N3)
      (try k_sweep)
      (try dsimp only)
      (try k_fold)
      (repeat' (first | ((fail_if_success (with_reducible show wpAny _ _ (call (Value.ref _) _) _ _ _)); (fail_if_success (with_reducible show wpAny _ _ (exec (Stmt.While _ _ _ _) _) _ _ _)); first | (k_unfold; (try dsimp only)) | (k_end; wrow_close) | walk1 | (dsimp only; walk1) | (leave1; walk_say "STEP leave1"; try dsimp only)) | fail "no step"))
      have hTop := topOk_of hl1 hT1 hb1 hl2 hb2 hx30 hx31
      clear hl1 hT1 hb1 hl2 hb2 hx30 hx31 hT2 hI2
      k_dflt (refine' spec_useBool (psr_ok _ _ _ _ _ _ _ _ hTop.inOk) ?kB ?kF ?kX ?kN ?kT ?kk ?ka ?kd ?ku ?_; walk_at "p_useW")
      intro h4 tk4 F4 N4
      (try k_sweep)
      (try dsimp only)
      (try k_fold)
      (repeat' (first | ((fail_if_success (with_reducible show wpAny _ _ (call (Value.ref _) _) _ _ _)); (fail_if_success (with_reducible show wpAny _ _ (exec (Stmt.While _ _ _ _) _) _ _ _)); first | (k_unfold; (try dsimp only)) | (k_end; wrow_close) | walk1 | (dsimp only; walk1) | (leave1; walk_say "STEP leave1"; try dsimp only)) | fail "no step"))
      k_dflt (refine' ref_ok _ _ _ _ _ _ _ _ _ _ _ _ _ _ _ _ _ _ _ _ ?kB ?kF ?kX ?kN ?kT ?kk ?kd ?ku ?_; (case kF => k_asm); (case kB => k_asm); (case kX => k_asm); (case kN => k_asm); (case kT => k_asm); (case kk => exact rfl); (case kd => ktr_room); (case ku => ktr_units); k_whole)
      intro h5 tk5 F5 N5
      (try k_sweep)
      (try dsimp only)
      (try k_fold)
      (repeat' (first | ((fail_if_success (with_reducible show wpAny _ _ (call (Value.ref _) _) _ _ _)); (fail_if_success (with_reducible show wpAny _ _ (exec (Stmt.If _ _ _ _) _) _ _ _)); (fail_if_success (with_reducible show wpAny _ _ (exec (Stmt.While _ _ _ _) _) _ _ _)); first | (k_unfold; (try dsimp only)) | (k_end; wrow_close) | walk1 | (dsimp only; walk1) | (leave1; walk_say "STEP leave1"; try dsimp only)) | fail "no step"))
      generalize hbe : rs2 ++ [x3 + 1] = bot at *
      (rename IntsAre _ bot => hIb)
      refine law_ints hIb ?_
      intro bv9 e9
      subst e9
      have N6 := law_trim N5
      clear N5
      k_dflt (refine cut_flow F5 N6 ?test4 ?rest4)
      · cases hz : zx rs1 bot with
        | none =>
          (repeat' (first | ((fail_if_success (with_reducible show wpAny _ _ (call (Value.ref _) _) _ _ _)); (fail_if_success (with_reducible show wpAny _ _ (exec (Stmt.While _ _ _ _) _) _ _ _)); first | (k_unfold; (try dsimp only)) | (k_end; wrow_close) | walk1 | (dsimp only; walk1) | (leave1; walk_say "STEP leave1"; try dsimp only)) | fail "no step"))
          k_dflt (refine' spec_useN (zexact_none _ _ _ _ _ _ _ _ hTop.inOk hz) ?kB ?kF ?kX ?kN ?kT ?kk ?ka ?kd ?ku ?_; walk_at "p_useW")
          intro h6 tk6 F6 N7
          (try k_sweep)
          (try dsimp only)
          (try k_fold)
          (repeat' (first | ((fail_if_success (with_reducible show wpAny _ _ (call (Value.ref _) _) _ _ _)); (fail_if_success (with_reducible show wpAny _ _ (exec (Stmt.While _ _ _ _) _) _ _ _)); first | (k_unfold; (try dsimp only)) | (k_end; wrow_close) | walk1 | (dsimp only; walk1) | (leave1; walk_say "STEP leave1"; try dsimp only)) | fail "no step"))
          k_dflt (refine' spec_useN (quot_none_ok _ _ _ _ _ _ _ _ hTop.inOk hz) ?kB ?kF ?kX ?kN ?kT ?kk ?ka ?kd ?ku ?_; walk_at "p_useW")
          intro h7 tk7 F7 N8
          (try k_sweep)
          (try dsimp only)
          (try k_fold)
          (repeat' (first | ((fail_if_success (with_reducible show wpAny _ _ (call (Value.ref _) _) _ _ _)); (fail_if_success (with_reducible show wpAny _ _ (exec (Stmt.While _ _ _ _) _) _ _ _)); first | (k_unfold; (try dsimp only)) | (k_end; wrow_close) | walk1 | (dsimp only; walk1) | (leave1; walk_say "STEP leave1"; try dsimp only)) | fail "no step"))
          exact endF_ F7 N8 (fun p hp => hp)
        | some q9 =>
          (repeat' (first | ((fail_if_success (with_reducible show wpAny _ _ (call (Value.ref _) _) _ _ _)); (fail_if_success (with_reducible show wpAny _ _ (exec (Stmt.While _ _ _ _) _) _ _ _)); first | (k_unfold; (try dsimp only)) | (k_end; wrow_close) | walk1 | (dsimp only; walk1) | (leave1; walk_say "STEP leave1"; try dsimp only)) | fail "no step"))
          k_dflt (refine' spec_useL (zexact_some _ _ _ _ _ _ _ _ _ hTop.inOk hz) ?kB ?kF ?kX ?kN ?kT ?kk ?ka ?kd ?ku ?_; walk_at "p_useW")
          intro r6 us6 n6 h6 tk6 F6 N7 o6 i6
          simp only [LCg.Off1, and_true] at o6
          (try k_sweep)
          (try dsimp only)
          (try k_fold)
          (repeat' (first | ((fail_if_success (with_reducible show wpAny _ _ (call (Value.ref _) _) _ _ _)); (fail_if_success (with_reducible show wpAny _ _ (exec (Stmt.While _ _ _ _) _) _ _ _)); first | (k_unfold; (try dsimp only)) | (k_end; wrow_close) | walk1 | (dsimp only; walk1) | (leave1; walk_say "STEP leave1"; try dsimp only)) | fail "no step"))
          k_dflt (refine' spec_useL (quot_some_ok _ _ _ _ _ _ _ _ _ hTop.inOk hz) ?kB ?kF ?kX ?kN ?kT ?kk ?ka ?kd ?ku ?_; walk_at "p_useW")
          intro r7 us7 n7 h7 tk7 F7 N8 o7 i7
          simp only [LCg.Off1, and_true] at o7
          (try k_sweep)
          (try dsimp only)
          (try k_fold)
          (repeat' (first | ((fail_if_success (with_reducible show wpAny _ _ (call (Value.ref _) _) _ _ _)); (fail_if_success (with_reducible show wpAny _ _ (exec (Stmt.While _ _ _ _) _) _ _ _)); first | (k_unfold; (try dsimp only)) | (k_end; wrow_close) | walk1 | (dsimp only; walk1) | (leave1; walk_say "STEP leave1"; try dsimp only)) | fail "no step"))
          exact endF_ F7 N8 (fun p hp => .tail _ (.tail _ hp))
      · intro h6 tk6 F6 N6'
        clear F5 N6
        (try dsimp only)
        (try k_fold)
        (repeat' (first | ((fail_if_success (with_reducible show wpAny _ _ (call (Value.ref _) _) _ _ _)); (fail_if_success (with_reducible show wpAny _ _ (exec (Stmt.While _ _ _ _) _) _ _ _)); first | (k_unfold; (try dsimp only)) | (k_end; wrow_close) | walk1 | (dsimp only; walk1) | (leave1; walk_say "STEP leave1"; try dsimp only)) | fail "no step"))
        k_dflt (refine' spec_useL (times_ok _ _ _ _ _ _ _ _ hTop.inOk) ?kB ?kF ?kX ?kN ?kT ?kk ?ka ?kd ?ku ?_; walk_at "p_useW")
        intro r8 us8 n8 h8 tk8 F8 N8 o8 i8
        simp only [LCg.Off1, and_true] at o8
        have hWz := zx_times hTop.inOk
        have hWin := whole_inOk hTop
        have hWb := fun i x h0 h1 => bumped_inOk (i := i) (x := x) hTop h0 h1
        have hWl := whole_len hTop
        generalize hWe : timesL rs1 bot = W at *
        (try k_sweep)
        (try dsimp only)
        (try k_fold)
        (repeat' (first | ((fail_if_success (with_reducible show wpAny _ _ (call (Value.ref _) _) _ _ _)); (fail_if_success (with_reducible show wpAny _ _ (exec (Stmt.While _ _ _ _) _) _ _ _)); first | (k_unfold; (try dsimp only)) | (k_end; wrow_close) | walk1 | (dsimp only; walk1) | (leave1; walk_say "STEP leave1"; try dsimp only)) | fail "no step"))
        k_dflt (refine' spec_useL (zexact_some _ _ _ _ _ _ _ _ _ hWin hWz) ?kB ?kF ?kX ?kN ?kT ?kk ?ka ?kd ?ku ?_; walk_at "p_useW")
        intro r9 us9 n9 h9 tk9 F9 N9 o9 i9
        simp only [LCg.Off1, and_true] at o9
        (try k_sweep)
        (try dsimp only)
        (try k_fold)
        (repeat' (first | ((fail_if_success (with_reducible show wpAny _ _ (call (Value.ref _) _) _ _ _)); (fail_if_success (with_reducible show wpAny _ _ (exec (Stmt.While _ _ _ _) _) _ _ _)); first | (k_unfold; (try dsimp only)) | (k_end; wrow_close) | walk1 | (dsimp only; walk1) | (leave1; walk_say "STEP leave1"; try dsimp only)) | fail "no step"))
        k_dflt (refine' spec_useBool (zdiv_true _ _ _ _ _ _ _ _ hWin hWz) ?kB ?kF ?kX ?kN ?kT ?kk ?ka ?kd ?ku ?_; walk_at "p_useW")
        intro h10 tk10 F10 N10
        (try k_sweep)
        (try dsimp only)
        (try k_fold)
        (repeat' (first | ((fail_if_success (with_reducible show wpAny _ _ (call (Value.ref _) _) _ _ _)); (fail_if_success (with_reducible show wpAny _ _ (exec (Stmt.If _ _ _ _) _) _ _ _)); (fail_if_success (with_reducible show wpAny _ _ (exec (Stmt.While _ _ _ _) _) _ _ _)); first | (k_unfold; (try dsimp only)) | (k_end; wrow_close) | walk1 | (dsimp only; walk1) | (leave1; walk_say "STEP leave1"; try dsimp only)) | fail "no step"))
        refine law_names N10 ?_
        intro w11 b11 bx11 sl11 e1 e2 e3 e4
        subst e1 e2 e3 e4
        k_dflt (refine cut_whole (bot := bot) F10 (law_bot N10) ?test7 ?rest7)
        · (repeat' (first | ((fail_if_success (with_reducible show wpAny _ _ (call (Value.ref _) _) _ _ _)); (fail_if_success (with_reducible show wpAny _ _ (exec (Stmt.While _ _ _ _) _) _ _ _)); first | (k_unfold; (try dsimp only)) | (k_end; wrow_close) | walk1 | (dsimp only; walk1) | (leave1; walk_say "STEP leave1"; try dsimp only)) | fail "no step"))
          · (rename Fr _ _ _ _ => F11)
            (rename News _ _ _ _ => N11)
            exact endW_ (n := n8) F11 N11 (by ((intro p hp; simp only [List.mem_cons, List.not_mem_nil, or_false] at hp ⊢; rcases hp with h | h <;> simp [h]))) i8 hWin rfl (fun y hy => rfl)
          · have hWp : 0 < (W.length : Int) := pos_of_dec (by assumption)
            k_dflt (refine' spec_useB (take_ok _ _ _ _ _ _ _ _ _ _ _ _ _ _ ?h1 ?h2 ?h3 ?h4 ?h5 ?h6) ?kB ?kF ?kX ?kN ?kT ?kk ?kU ?ka ?kd ?ku ?_; walk_at "p_useW")
            intro v12 ob12 h12 tk12 F12 N12 kN12 hO12
            obtain ⟨i13, ti13, z13, tz13, n13, x13, t13, rfl, hi130, hi131, rfl, hx130, hx131⟩ := hO12
            clear kN12
            (try dsimp only at N12)
            (try k_sweep)
            (try dsimp only)
            (try k_fold)
            (repeat' (first | ((fail_if_success (with_reducible show wpAny _ _ (call (Value.ref _) _) _ _ _)); (fail_if_success (with_reducible show wpAny _ _ (exec (Stmt.While _ _ _ _) _) _ _ _)); first | (k_unfold; (try dsimp only)) | (k_end; wrow_close) | walk1 | (dsimp only; walk1) | (leave1; walk_say "STEP leave1"; try dsimp only)) | fail "no step"))
            k_dflt (refine' spec_useB (take_ok _ _ _ _ _ _ _ _ _ _ _ _ _ _ ?h1 ?h2 ?h3 ?h4 ?h5 ?h6) ?kB ?kF ?kX ?kN ?kT ?kk ?kU ?ka ?kd ?ku ?_; walk_at "p_useW")
            intro v14 ob14 h14 tk14 F14 N14 kN14 hO14
            obtain ⟨i15, ti15, z15, tz15, n15, x15, t15, rfl, hi150, hi151, rfl, hx150, hx151⟩ := hO14
            clear kN14
            (try dsimp only at N14)
            (try k_sweep)
            (try dsimp only)
            (try k_fold)
            (repeat' (first | ((fail_if_success (with_reducible show wpAny _ _ (call (Value.ref _) _) _ _ _)); (fail_if_success (with_reducible show wpAny _ _ (exec (Stmt.While _ _ _ _) _) _ _ _)); first | (k_unfold; (try dsimp only)) | (k_end; wrow_close) | walk1 | (dsimp only; walk1) | (leave1; walk_say "STEP leave1"; try dsimp only)) | fail "no step"))
            (rename Fr _ _ _ _ => lF')
            (rename News _ _ _ _ => lN')
            (rename IntsAre (List.set _ _ _) _ => hiS)
            have hWs : (W.set x13.toNat (W.getD x13.toNat 0 + x15)).length = W.length := List.length_set
            have hWt := hWb x13.toNat x15 hx150 (by omega)
            generalize hW2 : W.set x13.toNat (W.getD x13.toNat 0 + x15) = W2 at *
            clear hW2
            generalize us8.set x13.toNat (Value.int (W.getD x13.toNat 0 + x15) tk14) = wv9 at *
            clear o1 o2 o8 o9 hi10 hi11 hi20 hi21 hi30 hi31 hi130 hi131 hi150 hi151 hWb hWe hx130 hx131 hx150 hx151
            (repeat ((rename (_ < _ ∧ _) => zz9); clear zz9))
            (with_unfolding_all refine' ksw_while (σ := RSt) (RSt.led [(b11, listOf (List.toArray bv9) 0)]) (RSt.ps "whole") QSt.facts [] (RSt.inv W2) RSt.meas ⟨w11, wv9, n8, W2⟩ lF' (law_wb lN') hiS ?kk ?kp ?kt)
            (case kk => k_dflt (exact List.forall_mem_cons.mpr ⟨by with_unfolding_all rfl, List.forall_mem_nil _⟩))
            (case kp => exact ⟨by show W2.length ≤ 1000; omega, rfl⟩)
            clear lF' lN'
            intro c' u' h' tk' hf' hp' F' N'
            obtain ⟨cr', crv', crn', crs'⟩ := c'
            dsimp only [RSt.led, RSt.ps, QSt.facts, RSt.inv, kstB] at hf' hp' F' N'
            obtain ⟨hp1', hp2'⟩ := hp'
            have hfi' := hf'
            (try k_unmd)
            k_fold
            (repeat' (first | ((fail_if_success (with_reducible show wpAny _ _ (call (Value.ref _) _) _ _ _)); (fail_if_success (with_reducible show wpAny _ _ (unaryOp _ _) _ _ _)); (fail_if_success (with_reducible show wpAny _ _ (exec (Stmt.While _ _ _ _) _) _ _ _)); first | (k_unfold; (try dsimp only)) | walk1 | (dsimp only; walk1) | (leave1; walk_say "STEP leave1"; try dsimp only)) | fail "no step"))
            · (rename Fr _ _ _ _ => F13)
              (rename News _ _ _ _ => N13)
              have he : trim W2 = crs' := by rw [← hp2']; exact trim_nil_of (by assumption)
              exact endW_ (n := crn') F13 N13 (by ((intro p hp; simp only [List.mem_cons, List.not_mem_nil, or_false] at hp ⊢; rcases hp with h | h <;> simp [h]))) hfi' (he ▸ hWt) rfl (fun y hy => by simp [hy])
            · have hpos : 0 < (crs'.length : Int) := pos_of_dec (by assumption)
              (try k_unmd)
              (repeat' (first | ((fail_if_success (with_reducible show wpAny _ _ (call (Value.ref _) _) _ _ _)); (fail_if_success (with_reducible show wpAny _ _ (exec (Stmt.While _ _ _ _) _) _ _ _)); first | (k_unfold; (try dsimp only)) | (k_end; wrow_close) | walk1 | (dsimp only; walk1) | (leave1; walk_say "STEP leave1"; try dsimp only)) | fail "no step"))
              · (rename Fr _ _ _ _ => lF')
                (rename News _ _ _ _ => lN')
                refine' ksw_end (σ := RSt) ⟨_, _, _, List.take (crs'.length - 1) crs'⟩ lF' lN' ?eM ?ef ?ek ?er ?ep ?em
                (case ek => k_dflt (exact List.forall_mem_cons.mpr ⟨by with_unfolding_all rfl, List.forall_mem_nil _⟩))
                (case eM => k_dflt (exact List.forall_mem_cons.mpr ⟨by k_mem, List.forall_mem_cons.mpr ⟨by k_mem, List.forall_mem_nil _⟩⟩))
                (case ef => show IntsAre _ _; assumption)
                (case er => dsimp only [RSt.ps]; ksw_same)
                (case ep => exact ⟨by show (List.take (crs'.length - 1) crs').length ≤ 1000; rw [List.length_take]; omega, by rw [← hp2']; exact trim_take crs' hpos (by assumption)⟩)
                (case em => show (List.take (crs'.length - 1) crs').length < crs'.length; rw [List.length_take]; omega)
              · (rename Fr _ _ _ _ => F13)
                (rename News _ _ _ _ => N13)
                have he : trim W2 = crs' := by rw [← hp2']; exact trim_stop _ hpos (by assumption)
                exact endW_ (n := crn') F13 N13 (by ((intro p hp; simp only [List.mem_cons, List.not_mem_nil, or_false] at hp ⊢; rcases hp with h | h <;> simp [h]))) hfi' (he ▸ hWt) rfl (fun y hy => by simp [hy])
        · intro h12 tk12 r12 us12 n12 W12 F12 N12 i12 hin12
          have hl12 := hin12.la
          clear F10 N10 hWz hWin hWb hWl
          (try dsimp only)
          (try k_fold)
          cases hz : zx W12 bot with
          | none =>
            (repeat' (first | ((fail_if_success (with_reducible show wpAny _ _ (call (Value.ref _) _) _ _ _)); (fail_if_success (with_reducible show wpAny _ _ (exec (Stmt.While _ _ _ _) _) _ _ _)); first | (k_unfold; (try dsimp only)) | (k_end; wrow_close) | walk1 | (dsimp only; walk1) | (leave1; walk_say "STEP leave1"; try dsimp only)) | fail "no step"))
            k_dflt (refine' spec_useN (quot_none_ok _ _ _ _ _ _ _ _ hin12 hz) ?kB ?kF ?kX ?kN ?kT ?kk ?ka ?kd ?ku ?_; walk_at "p_useW")
            intro h13 tk13 F13 N13
            (try k_sweep)
            (try dsimp only)
            (try k_fold)
            (repeat' (first | ((fail_if_success (with_reducible show wpAny _ _ (call (Value.ref _) _) _ _ _)); (fail_if_success (with_reducible show wpAny _ _ (exec (Stmt.While _ _ _ _) _) _ _ _)); first | (k_unfold; (try dsimp only)) | (k_end; wrow_close) | walk1 | (dsimp only; walk1) | (leave1; walk_say "STEP leave1"; try dsimp only)) | fail "no step"))
            k_dflt (refine' spec_useN (zexact_none _ _ _ _ _ _ _ _ hin12 hz) ?kB ?kF ?kX ?kN ?kT ?kk ?ka ?kd ?ku ?_; walk_at "p_useW")
            intro h14 tk14 F14 N14
            (try k_sweep)
            (try dsimp only)
            (try k_fold)
            (repeat' (first | ((fail_if_success (with_reducible show wpAny _ _ (call (Value.ref _) _) _ _ _)); (fail_if_success (with_reducible show wpAny _ _ (exec (Stmt.While _ _ _ _) _) _ _ _)); first | (k_unfold; (try dsimp only)) | (k_end; wrow_close) | walk1 | (dsimp only; walk1) | (leave1; walk_say "STEP leave1"; try dsimp only)) | fail "no step"))
            k_dflt (refine' spec_useBool (zdiv_false _ _ _ _ _ _ _ _ hin12 hz) ?kB ?kF ?kX ?kN ?kT ?kk ?ka ?kd ?ku ?_; walk_at "p_useW")
            intro h15 tk15 F15 N15
            (try k_sweep)
            (try dsimp only)
            (try k_fold)
            (repeat' (first | ((fail_if_success (with_reducible show wpAny _ _ (call (Value.ref _) _) _ _ _)); (fail_if_success (with_reducible show wpAny _ _ (exec (Stmt.While _ _ _ _) _) _ _ _)); first | (k_unfold; (try dsimp only)) | (k_end; wrow_close) | walk1 | (dsimp only; walk1) | (leave1; walk_say "STEP leave1"; try dsimp only)) | fail "no step"))
            exact hret9 _ _ _ F15
          | some q13 =>
            (repeat' (first | ((fail_if_success (with_reducible show wpAny _ _ (call (Value.ref _) _) _ _ _)); (fail_if_success (with_reducible show wpAny _ _ (exec (Stmt.While _ _ _ _) _) _ _ _)); first | (k_unfold; (try dsimp only)) | (k_end; wrow_close) | walk1 | (dsimp only; walk1) | (leave1; walk_say "STEP leave1"; try dsimp only)) | fail "no step"))
            k_dflt (refine' spec_useL (quot_some_ok _ _ _ _ _ _ _ _ _ hin12 hz) ?kB ?kF ?kX ?kN ?kT ?kk ?ka ?kd ?ku ?_; walk_at "p_useW")
            intro r13 us13 n13 h13 tk13 F13 N13 o13 i13
            simp only [LCg.Off1, and_true] at o13
            (try k_sweep)
            (try dsimp only)
            (try k_fold)
            (repeat' (first | ((fail_if_success (with_reducible show wpAny _ _ (call (Value.ref _) _) _ _ _)); (fail_if_success (with_reducible show wpAny _ _ (exec (Stmt.While _ _ _ _) _) _ _ _)); first | (k_unfold; (try dsimp only)) | (k_end; wrow_close) | walk1 | (dsimp only; walk1) | (leave1; walk_say "STEP leave1"; try dsimp only)) | fail "no step"))
            k_dflt (refine' spec_useL (zexact_some _ _ _ _ _ _ _ _ _ hin12 hz) ?kB ?kF ?kX ?kN ?kT ?kk ?ka ?kd ?ku ?_; walk_at "p_useW")
            intro r14 us14 n14 h14 tk14 F14 N14 o14 i14
            simp only [LCg.Off1, and_true] at o14
            (try k_sweep)
            (try dsimp only)
            (try k_fold)
            (repeat' (first | ((fail_if_success (with_reducible show wpAny _ _ (call (Value.ref _) _) _ _ _)); (fail_if_success (with_reducible show wpAny _ _ (exec (Stmt.While _ _ _ _) _) _ _ _)); first | (k_unfold; (try dsimp only)) | (k_end; wrow_close) | walk1 | (dsimp only; walk1) | (leave1; walk_say "STEP leave1"; try dsimp only)) | fail "no step"))
            k_dflt (refine' spec_useBool (zdiv_true _ _ _ _ _ _ _ _ hin12 hz) ?kB ?kF ?kX ?kN ?kT ?kk ?ka ?kd ?ku ?_; walk_at "p_useW")
            intro h15 tk15 F15 N15
            (try k_sweep)
            (try dsimp only)
            (try k_fold)
            (repeat' (first | ((fail_if_success (with_reducible show wpAny _ _ (call (Value.ref _) _) _ _ _)); (fail_if_success (with_reducible show wpAny _ _ (exec (Stmt.While _ _ _ _) _) _ _ _)); first | (k_unfold; (try dsimp only)) | (k_end; wrow_close) | walk1 | (dsimp only; walk1) | (leave1; walk_say "STEP leave1"; try dsimp only)) | fail "no step"))
            exact hret9 _ _ _ F15))
end
end Mine
end
section
theorem PySem.Challenge.cw_pq0213_01_holds : PySem.Challenge.rw_pq0213_01.Holds := by
  exact Mine.law_walk
end
