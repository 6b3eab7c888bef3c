import PyProof.Rows.All
import Wide.All
import OpenK.AllK
import Wide.FinOn
import Lean
import PySem.Challenge.RW_nn0303_01
open PySem PySem.W PySem.Calls PyProof.Rows
set_option Elab.async false
set_option maxRecDepth 100000
namespace Mine
def hd.view_39 : Program :=
  { PySem.Challenge.rw_nn0303_01.row.toRowW.prog with main := { PySem.Challenge.rw_nn0303_01.row.toRowW.prog.main with
    body := (((PySem.Challenge.rw_nn0303_01.row.toRowW.prog.main.body.eraseIdx 25).eraseIdx 5).eraseIdx 3).eraseIdx 0 } }
def topQ {β : Type} (tr : (String → Option Builtin) → Program → World → Nat → Option Value → Nat → Shared → Thread → Option Shared) (tt : String → Option Builtin) (sn : Program → List Str → List Str → (Shared → Bool) → Bool → Shared → β)
    (p q : Program) (loose : List Str) (Xt : Shared → Bool) {α : Type} (Yf : Shared → α) (w : World) (N : Nat) (s₀ : Shared) : Option (β × α) :=
  match s₀.heap.isNs mainGlobals && s₀.gens.size == 0 with
  | true => (tr tt p w s₀.heap.objs.size (s₀.heap.nsMap mainGlobals "__annotations__") N s₀ (topStub p)).bind fun s₁ =>
    match staticsOk (importedModules p.main.body) s₀.heap s₁.heap && namesBound p s₁.heap && gensDone s₁ && laidKept s₀.heap s₁.heap with
      | true => some (sn q loose (importedModules p.main.body) Xt true s₁, Yf s₁)
      | false => none
  | false => none
theorem topQ_eq {p q : Program} {loose : List Str} {Xt : Shared → Bool} {α : Type} {Yf : Shared → α} {w : World} {N : Nat} {s₀ : Shared} :
    (topFrom treeTable p w N s₀).map (fun s => (openSeen q loose (importedModules p.main.body) Xt true s, Yf s)) = topQ topRun treeTable openSeen p q loose Xt Yf w N s₀ := by
  unfold topFrom topQ
  cases s₀.heap.isNs mainGlobals && s₀.gens.size == 0 with
  | false => rfl
  | true =>
    show ((topRun treeTable p w s₀.heap.objs.size (s₀.heap.nsMap mainGlobals "__annotations__") N s₀ (topStub p)).bind _).map _ = _
    cases topRun treeTable p w s₀.heap.objs.size (s₀.heap.nsMap mainGlobals "__annotations__") N s₀ (topStub p) with
    | none => rfl
    | some s₁ =>
      show (match staticsOk (importedModules p.main.body) s₀.heap s₁.heap && namesBound p s₁.heap && gensDone s₁ && laidKept s₀.heap s₁.heap with | true => some s₁ | false => none).map _ = (match staticsOk (importedModules p.main.body) s₀.heap s₁.heap && namesBound p s₁.heap && gensDone s₁ && laidKept s₀.heap s₁.heap with | true => _ | false => _)
      cases staticsOk (importedModules p.main.body) s₀.heap s₁.heap && namesBound p s₁.heap && gensDone s₁ && laidKept s₀.heap s₁.heap <;> rfl
theorem left_quick {p q : Program} {loose : List Str} {Xt : Shared → Bool} {α : Type} {Yf : Shared → α} {Ya : World → α} {N : Nat}
    {tr : (String → Option Builtin) → Program → World → Nat → Option Value → Nat → Shared → Thread → Option Shared} (e1 : topRun = tr) {tt : String → Option Builtin} (e2 : treeTable = tt)
    {sn : _} (e3 : openSeen = sn)
    (e : opening p = plainProg p.main.scope.names) (hN : Nat.ble 600 N = true) (f : ∀ s, fenceModules? p s = some s)
    (h : ∀ (w : World) (os : OsState), topQ tr tt sn p q loose Xt Yf w N ⟨boot_heap w.params, Array.mk [], boot_drawn, boot_toks, os⟩ = some (openGood q loose, Ya w)) :
    LeftO p q loose Xt Yf Ya N := fun w => by
  subst e1 e2 e3
  obtain ⟨⟨a, b, c, d, os⟩, e1, e2⟩ := Option.map_eq_some_iff.mp (boot_open e hN f w)
  obtain ⟨rfl, rfl, rfl, rfl⟩ : a = boot_heap w.params ∧ b = Array.mk [] ∧ c = boot_drawn ∧ d = boot_toks := by simpa using e2
  unfold openEnds
  rw [e1]
  exact topQ_eq.trans (h w os)
local macro_rules | `(tactic| o_head $H) => do
  let hw := Lean.mkIdent `hw
  let hc := Lean.mkIdent `hc
  let hl := Lean.mkIdent `hl
  `(tactic| (refine _root_.PySem.W.holds_open (q := hd.view_39) (loose := [PySem.Str.ofString "GateloomError", PySem.Str.ofString "vec"]) (Xt := fun s => xlAt hd.view_39 [] s && recOk (RowW.records PySem.Challenge.rw_nn0303_01.row.toRowW) s) (XP := XL hd.view_39 []) (Yf := Hook.obs $H) (Ya := Hook.val $H) (YP := Hook.says $H) (N := 2892) ?$hl (Hook.of $H) (Hook.keeps $H) (fun s e => xl_of s (Bool.and_eq_true_iff.mp e).1) XL.keeps (by rfl) (by rfl) (by rfl) (fun s e => recFacts_of (Bool.and_eq_true_iff.mp e).2) (by rfl) (by first | assumption | decide +kernel) (by decide +kernel) ⟨rfl, rfl, rfl, rfl, rfl, by decide +kernel⟩ ?$hw ?$hc
             focus (first | (refine left_quick _root_.PySem.W.Fast.te14082659384304107361 _root_.PySem.W.Fast.te14364793385576792824 _root_.PySem.W.Fast.te4187177175401517315 (by rfl) (by rfl) (fun s => rfl) ?_; intro w os; kernel_rfl) | (intro w; kernel_rfl))))
set_option maxRecDepth 100000 in
set_option maxHeartbeats 8000000 in
open_top hd for PySem.Challenge.rw_nn0303_01
theorem lw_off : True := by
  w_top off
  trivial
def LwRet (Q : Value → Shared → Prop) (fl : Flow) (s' : Shared) : Prop := Q (match fl with | .ret v => v | _ => .none) s'

def LwNames (_ : List Str) : Prop := True
/-- a sign: the loops here go by hand -/
def LwLoop : Prop := True
/-- a sign: a product of a list goes by the word -/
def LwMark : Prop := True
def LwPre : Prop := True
def LwStop (P : Prop) : Prop := P
theorem lw_stop {P : Prop} (h : LwStop P) : P := h
theorem lw_go {P : Prop} (h : P) : LwStop P := h
/-- the call of a def from a known frame; everything that stands at the call is the callee's ground -/
theorem call_G {prog : Program} {w : World} {A₀ A : Around} {s : Shared} {base h₀ : Heap} {outer : List Env} {L : Addr} {m : Str → Option Value} {env : Env} {K : Frag} {mg mb : Str → Option Value} {p : Program} {loose : List Str} {mean : ExcName → Option Value}
    {Q E : Value → Shared → Prop} {name qual : Str} {params : Arguments} {body : List Stmt} {scope : Scope} {dV kV doc pm cdv ct oc : Value} {an od : Option Addr} {osl : Array (Option Value)} {f : Addr} {args : List Value} {names : List Str}
    (hn : LwNames names) (B : Below A₀ base outer h₀) (F : Fr h₀ L s.heap m) (X₀ : K.In h₀) (T : Top p loose mean mg mb h₀) (hA : A.frames = some (env :: outer)) (hf : env.frame = some L) (hke : env.scope.kind = .function)
    (ho : K.lookup f = some ⟨oc, od, .func (fnOf name qual params body scope dV kV doc pm an cdv ct), osl⟩) (hcd : codeIn K cdv qual = true) (hroom : A.depth < recursionLimit)
    (hbind : BindsTo s (fnOf name qual params body scope dV kV doc pm an cdv ct) ⟨args, []⟩ (names.zip args)) (hloc : ∀ y ∈ names.zip args, scope.names.lookup y.1 = some .local)
    (h : ∀ L' h₁ tk₁, Fr s.heap L' h₁ (fun y => (names.zip args).reverse.lookup y) → News s.heap L' h₁ [] → Below A base (env :: outer) s.heap → K.In s.heap → Top p loose mean mg mb s.heap →
      wpAny (model prog w) (A.deeper (envOf qual scope L' f cdv)) (execs body (envOf qual scope L' f cdv))
        (LwRet Q)
        (fun e s' => wpAny (model prog w) (A.deeper (envOf qual scope L' f cdv)) (leaving (envOf qual scope L' f cdv) e) (fun _ s'' => E e s'') (fun e' s'' => E e' s'') s')
        { s with heap := h₁, toks := tk₁ })
    (hco : scope.isCoroutine = false) (hgen : scope.isGenerator = false) (hk : scope.kind = .function)
    (hcell : ∀ x ∈ scope.names, x.2 ≠ .cell) : wpAny (model prog w) A (call (.ref f) args) Q E s := by
  refine wpAny_call ?_
  obtain ⟨FG, BG, st, lv⟩ := groundX (R := fun r s' => match r with | .ok (.ret v) => Q v s' | .ok _ => False | .error e => E e s') B F News.nil hA hf hke
  refine codeAny_call_def (fd := fnOf name qual params body scope dV kV doc pm an cdv ct) (body := body) (binds := names.zip args) hroom ((X₀.keeps F.keep) _ _ ho) rfl (T.nolimit.keeps F.keep) (codeRec_of (X₀.keeps F.keep) hcd) rfl hbind hcell hloc (fun h₁ hns hk₁ => ?_) hco hgen hk
  exact h s.heap.objs.size h₁ _ ⟨hns, hk₁, Nat.le_refl _⟩ News.nil BG (X₀.keeps F.keep) (T.keeps F.keep)

abbrev LHeap := Heap
abbrev LTok := Tok
abbrev LVal := Value
abbrev LStr := Str
/-- what a def of the text does, told over heaps -/
abbrev Spec (w : World) (need : Nat) (f : Addr) (vs : List Value) (pre : Heap → Prop) (post : Heap → Heap → Value → Prop) : Prop :=
  ∀ (dp un : Nat) (gd : Option (List Code)) (cn : Str) (cs : Scope) (a : Addr) (ccd : Value) (cl : List (Str × Addr)) (outer : List Env) (A₀ : Around) (base h₀ : Heap) (L : Addr) (m : Str → Option Value) (loose : List Str) (mean : ExcName → Option Value) (mg mb : Str → Option Value) (s : Shared) (Q E : Value → Shared → Prop),
    Below A₀ base outer h₀ → Fr h₀ L s.heap m → (hd.heap_39 w.params).In h₀ → Top hd.view_39 loose mean mg mb h₀ → cs.kind = .function → dp + need < recursionLimit → un + 8 * need < cLine → pre s.heap →
    (∀ v h' tk', s.heap.StaysIn h' → post s.heap h' v → Q v { s with heap := h', toks := tk' }) →
    wpAny (model PySem.Challenge.rw_nn0303_01.row.prog w) (ktrTop dp un gd cn cs L a ccd cl outer) (call (.ref f) vs) Q E s

theorem Fr.grow {h₀ h h' : Heap} {L : Addr} {m : Str → Option Value} (F : Fr h₀ L h m) (k : h.StaysIn h') : Fr h₀ L h' m :=
  ⟨F.ns.keeps k, fun b o e => k b o (F.keep b o e), F.above⟩
theorem News.grow {h₀ h h' : Heap} {L : Addr} {news : List (Addr × Obj)} (N : News h₀ L h news) (k : h.StaysIn h') : News h₀ L h' news :=
  fun p hp => ⟨k _ _ (N p hp).1, (N p hp).2⟩
theorem News.add {h₀ h h' : Heap} {L : Addr} {m : Str → Option Value} {news : List (Addr × Obj)} (F : Fr h₀ L h m) (N : News h₀ L h news) (k : h.StaysIn h') {a : Addr} {o : Obj} (ha : h.get? a = none) (ho : h'.get? a = some o) : News h₀ L h' ((a, o) :: news) := by
  intro p hp
  rcases List.mem_cons.mp hp with rfl | hp
  · refine ⟨ho, fun q => ?_, ?_⟩
    · obtain ⟨oL, _, _, hL, _⟩ := F.ns
      dsimp only at q; rw [q, hL] at ha; cases ha
    · cases q : h₀.get? a with
      | none => rfl
      | some o' => rw [F.keep _ _ q] at ha; cases ha
  · exact News.grow N k p hp
theorem News.apart {h₀ h : Heap} {L : Addr} {news : List (Addr × Obj)} (N : News h₀ L h news) {a : Addr} (ha : h.get? a = none) : ∀ p ∈ news, p.1 ≠ a := fun p hp q => by
  have := (N p hp).1; rw [q, ha] at this; cases this
def AllNe (d : Nat) : List (Addr × Obj) → Prop
  | [] => True
  | p :: r => @Ne Nat p.1 d ∧ AllNe d r
theorem allNe_of {d : Addr} : ∀ {l : List (Addr × Obj)}, (∀ p ∈ l, p.1 ≠ d) → AllNe d l
  | [], _ => trivial
  | p :: _, h => ⟨h p (.head _), allNe_of fun q hq => h q (.tail _ hq)⟩

abbrev tupObj (vs : List Value) : Obj := { cls := .type "tuple", data := .seq vs.toArray }
abbrev t3 (x y z : Int) (tx ty tz : Tok) : List Value := [.int x tx, .int y ty, .int z tz]
def IntIs (x : Int) (_ _ : Heap) (v : Value) : Prop := ∃ t, v = .int x t
def BoolIs (x : Bool) (_ _ : Heap) (v : Value) : Prop := v = .bool x
def StrIs (x : Str) (_ _ : Heap) (v : Value) : Prop := ∃ t, v = .str x t
def TupIs (x y z : Int) (h h' : Heap) (v : Value) : Prop := ∃ a tx ty tz, v = .ref a ∧ h.get? a = none ∧ h'.get? a = some (tupObj (t3 x y z tx ty tz))
def ListIs (ns : List Int) (h h' : Heap) (v : Value) : Prop := ∃ a n vs, v = .ref a ∧ h.get? a = none ∧ h'.get? a = some (listOf vs n) ∧ IntsAre vs.toList ns

theorem isTup_get {h : Heap} {a : Addr} {l : List Value} (e : h.get? a = some (tupObj l)) : IsTup h a l.toArray := ⟨_, e, rfl, _, rfl⟩

section
variable {w : World} {need : Nat} {f : Addr} {vs : List Value} {pre : Heap → Prop} {post : Heap → Heap → Value → Prop} {dp un : Nat} {gd : Option (List Code)} {cn : Str} {cs : Scope} {a : Addr} {ccd : Value} {cl : List (Str × Addr)} {outer : List Env} {A₀ : Around} {base h₀ : Heap} {L : Addr} {m : Str → Option Value} {news : List (Addr × Obj)} {loose : List Str} {mean : ExcName → Option Value} {mg mb : Str → Option Value} {s : Shared} {Q E : Value → Shared → Prop}

theorem use_any (C : Spec w need f vs pre post) (B : Below A₀ base outer h₀) (F : Fr h₀ L s.heap m) (X : (hd.heap_39 w.params).In h₀) (N : News h₀ L s.heap news) (T : Top hd.view_39 loose mean mg mb h₀) (hk : cs.kind = .function) (hdp : dp + need < recursionLimit) (hu : un + 8 * need < cLine) (hp : pre s.heap)
    (ret : ∀ v h' tk', s.heap.StaysIn h' → Fr h₀ L h' m → News h₀ L h' news → post s.heap h' v → Q v { s with heap := h', toks := tk' }) :
    wpAny (model PySem.Challenge.rw_nn0303_01.row.prog w) (ktrTop dp un gd cn cs L a ccd cl outer) (call (.ref f) vs) Q E s :=
  C _ _ _ _ _ _ _ _ _ _ _ _ _ _ _ _ _ _ _ _ _ B F X T hk hdp hu hp fun v h' tk' k p => ret v h' tk' k (Fr.grow F k) (News.grow N k) p
theorem use_int {x : Int} (C : Spec w need f vs pre (IntIs x)) (B : Below A₀ base outer h₀) (F : Fr h₀ L s.heap m) (X : (hd.heap_39 w.params).In h₀) (N : News h₀ L s.heap news) (T : Top hd.view_39 loose mean mg mb h₀) (hk : cs.kind = .function) (hdp : dp + need < recursionLimit) (hu : un + 8 * need < cLine) (hp : pre s.heap)
    (ret : ∀ t h' tk', Fr h₀ L h' m → News h₀ L h' news → Q (.int x t) { s with heap := h', toks := tk' }) :
    wpAny (model PySem.Challenge.rw_nn0303_01.row.prog w) (ktrTop dp un gd cn cs L a ccd cl outer) (call (.ref f) vs) Q E s :=
  use_any C B F X N T hk hdp hu hp fun v h' tk' _ F' N' p => by obtain ⟨t, rfl⟩ := p; exact ret t h' tk' F' N'
theorem use_bool {x : Bool} (C : Spec w need f vs pre (BoolIs x)) (B : Below A₀ base outer h₀) (F : Fr h₀ L s.heap m) (X : (hd.heap_39 w.params).In h₀) (N : News h₀ L s.heap news) (T : Top hd.view_39 loose mean mg mb h₀) (hk : cs.kind = .function) (hdp : dp + need < recursionLimit) (hu : un + 8 * need < cLine) (hp : pre s.heap)
    (ret : ∀ h' tk', Fr h₀ L h' m → News h₀ L h' news → Q (.bool x) { s with heap := h', toks := tk' }) :
    wpAny (model PySem.Challenge.rw_nn0303_01.row.prog w) (ktrTop dp un gd cn cs L a ccd cl outer) (call (.ref f) vs) Q E s :=
  use_any C B F X N T hk hdp hu hp fun v h' tk' _ F' N' p => by cases (p : v = .bool x); exact ret h' tk' F' N'
theorem use_str {x : Str} (C : Spec w need f vs pre (StrIs x)) (B : Below A₀ base outer h₀) (F : Fr h₀ L s.heap m) (X : (hd.heap_39 w.params).In h₀) (N : News h₀ L s.heap news) (T : Top hd.view_39 loose mean mg mb h₀) (hk : cs.kind = .function) (hdp : dp + need < recursionLimit) (hu : un + 8 * need < cLine) (hp : pre s.heap)
    (ret : ∀ t h' tk', Fr h₀ L h' m → News h₀ L h' news → Q (.str x t) { s with heap := h', toks := tk' }) :
    wpAny (model PySem.Challenge.rw_nn0303_01.row.prog w) (ktrTop dp un gd cn cs L a ccd cl outer) (call (.ref f) vs) Q E s :=
  use_any C B F X N T hk hdp hu hp fun v h' tk' _ F' N' p => by obtain ⟨t, rfl⟩ := p; exact ret t h' tk' F' N'
theorem use_tup {x y z : Int} (C : Spec w need f vs pre (TupIs x y z)) (B : Below A₀ base outer h₀) (F : Fr h₀ L s.heap m) (X : (hd.heap_39 w.params).In h₀) (N : News h₀ L s.heap news) (T : Top hd.view_39 loose mean mg mb h₀) (hk : cs.kind = .function) (hdp : dp + need < recursionLimit) (hu : un + 8 * need < cLine) (hp : pre s.heap)
    (ret : ∀ r tx ty tz h' tk', Fr h₀ L h' m → News h₀ L h' ((r, tupObj (t3 x y z tx ty tz)) :: news) → AllNe r news → Q (.ref r) { s with heap := h', toks := tk' }) :
    wpAny (model PySem.Challenge.rw_nn0303_01.row.prog w) (ktrTop dp un gd cn cs L a ccd cl outer) (call (.ref f) vs) Q E s :=
  use_any C B F X N T hk hdp hu hp fun v h' tk' k F' N' p => by obtain ⟨r, tx, ty, tz, rfl, h1, h2⟩ := p; exact ret r tx ty tz h' tk' F' (News.add F N k h1 h2) (allNe_of (News.apart N h1))
theorem use_list {ns : List Int} (C : Spec w need f vs pre (ListIs ns)) (B : Below A₀ base outer h₀) (F : Fr h₀ L s.heap m) (X : (hd.heap_39 w.params).In h₀) (N : News h₀ L s.heap news) (T : Top hd.view_39 loose mean mg mb h₀) (hk : cs.kind = .function) (hdp : dp + need < recursionLimit) (hu : un + 8 * need < cLine) (hp : pre s.heap)
    (ret : ∀ r n its h' tk', Fr h₀ L h' m → News h₀ L h' ((r, listOf its n) :: news) → IntsAre its.toList ns → AllNe r news → Q (.ref r) { s with heap := h', toks := tk' }) :
    wpAny (model PySem.Challenge.rw_nn0303_01.row.prog w) (ktrTop dp un gd cn cs L a ccd cl outer) (call (.ref f) vs) Q E s :=
  use_any C B F X N T hk hdp hu hp fun v h' tk' k F' N' p => by obtain ⟨r, n, its, rfl, h1, h2, h3⟩ := p; exact ret r n its h' tk' F' (News.add F N k h1 h2) h3 (allNe_of (News.apart N h1))
end

section
variable {h₀ h : Heap} {L : Addr} {m : Str → Option Value} {news : List (Addr × Obj)} {s : Shared} {Q : Value → Shared → Prop} {tk' : Nat}
theorem end_int {x y : Int} {t : Tok} (hret : ∀ v h' tk', s.heap.StaysIn h' → IntIs x s.heap h' v → Q v { s with heap := h', toks := tk' }) (F : Fr s.heap L h m) (e : y = x) : LwRet Q (.ret (.int y t)) { s with heap := h, toks := tk' } :=
  hret _ _ _ F.keep ⟨t, by rw [e]⟩
theorem end_bool {x y : Bool} (hret : ∀ v h' tk', s.heap.StaysIn h' → BoolIs x s.heap h' v → Q v { s with heap := h', toks := tk' }) (F : Fr s.heap L h m) (e : y = x) : LwRet Q (.ret (.bool y)) { s with heap := h, toks := tk' } :=
  hret _ _ _ F.keep (by rw [BoolIs, e])
theorem end_str {x y : Str} {t : Tok} (hret : ∀ v h' tk', s.heap.StaysIn h' → StrIs x s.heap h' v → Q v { s with heap := h', toks := tk' }) (F : Fr s.heap L h m) (e : y = x) : LwRet Q (.ret (.str y t)) { s with heap := h, toks := tk' } :=
  hret _ _ _ F.keep ⟨t, by rw [e]⟩
theorem end_tup {x y z x' y' z' : Int} {tx ty tz : Tok} {r : Addr} (hret : ∀ v h' tk', s.heap.StaysIn h' → TupIs x y z s.heap h' v → Q v { s with heap := h', toks := tk' }) (F : Fr s.heap L h m) (N : News s.heap L h news) (hm : (r, tupObj (t3 x' y' z' tx ty tz)) ∈ news) (ex : x' = x) (ey : y' = y) (ez : z' = z) : LwRet Q (.ret (.ref r)) { s with heap := h, toks := tk' } :=
  hret _ _ _ F.keep ⟨r, tx, ty, tz, rfl, (N _ hm).2.2, by rw [← ex, ← ey, ← ez]; exact (N _ hm).1⟩
theorem end_list {ns ms : List Int} {its : Array Value} {n : Nat} {r : Addr} (hret : ∀ v h' tk', s.heap.StaysIn h' → ListIs ns s.heap h' v → Q v { s with heap := h', toks := tk' }) (F : Fr s.heap L h m) (N : News s.heap L h news) (hm : (r, listOf its n) ∈ news) (hi : IntsAre its.toList ms) (e : ms = ns) : LwRet Q (.ret (.ref r)) { s with heap := h, toks := tk' } :=
  hret _ _ _ F.keep ⟨r, n, its, rfl, (N _ hm).2.2, (N _ hm).1, e ▸ hi⟩
end
section
variable {prog : Program} {w : World} {A : Around} {E : Value → Shared → Prop} {s : Shared} {env : Env} {h₀ : Heap} {x : Str} {body : List Stmt} {Q : Flow → Shared → Prop} {D : Type}

/-- where a turn of a loop ends -/
def LwTurn (h₀ : Heap) (L : Addr) (x : Str) (upd : D → Str → Option Value) (led : D → List (Addr × Obj)) (Inv : D → Prop) (own : List (Addr × Obj)) (s₁ : Shared) (Q : Flow → Shared → Prop) (f : Flow) (s₂ : Shared) : Prop :=
  match f with
  | .ret v => Q (.ret v) s₂
  | .brk => Q .next s₂
  | _ => ∃ d h' tk m' news', s₂ = { s₁ with heap := h', toks := tk } ∧ Fr h₀ L h' m' ∧ News h₀ L h' news' ∧ (∀ z, z ≠ x → m' z = upd d z) ∧ (∀ p ∈ led d, p ∈ news') ∧ (∀ p ∈ own, p ∈ news') ∧ Inv d
theorem turn_next {L : Addr} {upd : D → Str → Option Value} {led : D → List (Addr × Obj)} {Inv : D → Prop} {own : List (Addr × Obj)} {s₁ : Shared} {h' : Heap} {tk : Nat} {m' : Str → Option Value} {news' : List (Addr × Obj)}
    (d : D) (F : Fr h₀ L h' m') (N : News h₀ L h' news') (hm : ∀ z, z ≠ x → m' z = upd d z) (hl : ∀ p ∈ led d, p ∈ news') (ho : ∀ p ∈ own, p ∈ news') (hI : Inv d) :
    LwTurn h₀ L x upd led Inv own s₁ Q .next { s₁ with heap := h', toks := tk } := ⟨d, h', tk, m', news', rfl, F, N, hm, hl, ho, hI⟩

theorem lw_walk {I : Addr} {fp wr : List Addr} {n : Nat} {P : Nat → Value → Prop} {St : Nat → Heap → Prop} {m₀ : Str → Option Value}
    (upd : D → Str → Option Value) (led : D → List (Addr × Obj)) (Inv : Nat → D → Prop) (d₀ : D)
    (W : Walks prog w A I fp wr n P St) (hLf : env.locals ∉ fp) (hwr : ∀ b ∈ wr, h₀.get? b = none) (hnw : ∀ p ∈ led d₀, p.1 ∉ wr) (hfp : ∀ q ∈ led d₀, q.1 ∉ fp) (hst : St 0 s.heap)
    (F : Fr h₀ env.locals s.heap m₀) (N : News h₀ env.locals s.heap (led d₀)) (hm : ∀ z, z ≠ x → m₀ z = upd d₀ z) (ha : ∀ d, (led d).map (·.1) = (led d₀).map (·.1)) (hI : Inv 0 d₀)
    (turn : ∀ i v d h tk own, i < n → P i v → Inv i d → OwnOff own ((led d₀).map (·.1)) → Fr h₀ env.locals h (fun y => if y = x then some v else upd d y) → News h₀ env.locals h (led d ++ own) →
      wpAny (model prog w) A (execs body env) (LwTurn h₀ env.locals x upd led (Inv (i + 1)) own { s with heap := h, toks := tk } Q) E { s with heap := h, toks := tk })
    (done : ∀ (d : D) (u : Str → Option Value) (h : Heap) (tk : Nat), Inv n d → Fr h₀ env.locals h (fun y => if y = x then u y else upd d y) → News h₀ env.locals h (led d) → Q .next { s with heap := h, toks := tk }) :
    LoopAtV prog w A h₀ env x body Q E (.ref I) s := by
  refine loop_invN (fun i m nx => ∃ d, (∀ z, z ≠ x → m z = upd d z) ∧ nx = led d ∧ Inv i d) W hLf hwr hnw hfp hst F N ⟨d₀, hm, rfl, hI⟩ ?_ ?_
  · rintro i v m₁ news₁ h tk own hi hP _ hoff ⟨d, hd, rfl, hId⟩ F₁ N₁
    have e : (fun y => if y = x then some v else m₁ y) = fun y => if y = x then some v else upd d y := by
      funext y; by_cases hy : y = x
      · simp [hy]
      · simp [hy, hd y hy]
    rw [e] at F₁
    refine wpAny_mono (turn i v d h tk own hi hP hId hoff F₁ N₁) (fun f s₂ p => ?_) fun _ _ q => q
    have fin : (∃ d h' tk' m' news', s₂ = { ({ s with heap := h, toks := tk } : Shared) with heap := h', toks := tk' } ∧ Fr h₀ env.locals h' m' ∧ News h₀ env.locals h' news' ∧ (∀ z, z ≠ x → m' z = upd d z) ∧ (∀ p ∈ led d, p ∈ news') ∧ (∀ p ∈ own, p ∈ news') ∧ Inv (i + 1) d) →
        InvEndN h₀ env.locals (fun m nx => ∃ d, (∀ z, z ≠ x → m z = upd d z) ∧ nx = led d ∧ Inv (i + 1) d) own ((led d₀).map (·.1)) { s with heap := h, toks := tk } s₂ := by
      rintro ⟨d', h', tk', m', news', e', F', N', hm', hl', ho', hI'⟩
      exact ⟨h', tk', m', news', led d', e', F', N', hl', ho', ha d', d', hm', rfl, hI'⟩
    cases f with
    | ret v => exact p
    | brk => exact p
    | next => exact fin p
    | cont => exact fin p
  · rintro m₁ news₁ h tk ⟨d, hd, rfl, hId⟩ F₁ N₁
    have e : m₁ = fun y => if y = x then m₁ y else upd d y := by
      funext y; by_cases hy : y = x
      · simp [hy]
      · simp [hy, hd y hy]
    rw [e] at F₁
    exact done d m₁ h tk hId F₁ N₁

theorem lw_range {r : Addr} {a₀ b₀ : Int} {t₀ u₀ v₀ : Tok} {n : Nat} {m₀ : Str → Option Value}
    (upd : D → Str → Option Value) (led : D → List (Addr × Obj)) (Inv : Nat → D → Prop) (d₀ : D)
    (hh : A.handled = none) (hr : IsRange s.heap r a₀ b₀ 1 t₀ u₀ v₀) (hsmall : Builtin.Range.small a₀ b₀ 1 = true) (hn : Builtin.Range.rangeSize a₀ b₀ 1 = (n : Int))
    (F : Fr h₀ env.locals s.heap m₀) (N : News h₀ env.locals s.heap (led d₀)) (hm : ∀ z, z ≠ x → m₀ z = upd d₀ z) (ha : ∀ d, (led d).map (·.1) = (led d₀).map (·.1)) (hI : Inv 0 d₀)
    (turn : ∀ (i : Nat) t d h tk own, i < n → Inv i d → OwnOff own ((led d₀).map (·.1)) → Fr h₀ env.locals h (fun y => if y = x then some (.int (a₀ + i) t) else upd d y) → News h₀ env.locals h (led d ++ own) →
      wpAny (model prog w) A (execs body env) (LwTurn h₀ env.locals x upd led (Inv (i + 1)) own { s with heap := h, toks := tk } Q) E { s with heap := h, toks := tk })
    (done : ∀ (d : D) (u : Str → Option Value) (h : Heap) (tk : Nat), Inv n d → Fr h₀ env.locals h (fun y => if y = x then u y else upd d y) → News h₀ env.locals h (led d) → Q .next { s with heap := h, toks := tk }) :
    wpAny (model prog w) A (pyIter (.ref r)) (fun it s₂ => LoopAtV prog w A h₀ env x body Q E it s₂) E s := by
  refine wpAny_pyIter_range hr hsmall ?_
  have W : Walks prog w A s.heap.objs.size [s.heap.objs.size] [s.heap.objs.size] n (fun i v => i < n ∧ ∃ t, v = .int (a₀ + i * 1) t)
      (fun i h => IsRangeIter h s.heap.objs.size (a₀ + (i : Nat) * 1) ((n : Int) - (i : Nat)) 1) := (Walks.range hh _ a₀ 1 n).bound
  refine lw_walk upd led Inv d₀ W ?_ ?_ ?_ ?_ (by show IsRangeIter _ _ _ _ _; rw [hn]; simpa using Heap.get?_push_size _ rfl) (F.push _) (fun p hp => ⟨Heap.get?_push_of_some _ (N p hp).1, (N p hp).2⟩) hm ha hI ?_ ?_
  · intro hm
    exact absurd F.ns.lt ((List.mem_singleton.mp hm) ▸ Nat.lt_irrefl _)
  · intro b hb
    rw [List.mem_singleton.mp hb]
    exact next_is_new F
  · intro p hp hI
    exact absurd (Heap.lt_size (N p hp).1) ((List.mem_singleton.mp hI) ▸ Nat.lt_irrefl _)
  · intro p hp hI
    exact absurd (Heap.lt_size (N p hp).1) ((List.mem_singleton.mp hI) ▸ Nat.lt_irrefl _)
  · rintro i v d h tk own hi ⟨_, t, rfl⟩ hId hoff F' N'
    have e : a₀ + (i : Int) * 1 = a₀ + i := by omega
    rw [e] at F'
    exact turn i t d h tk own hi hId hoff F' N'
  · exact done


theorem lw_down {r : Addr} {a₀ b₀ : Int} {t₀ u₀ v₀ : Tok} {n : Nat} {m₀ : Str → Option Value}
    (upd : D → Str → Option Value) (led : D → List (Addr × Obj)) (Inv : Nat → D → Prop) (d₀ : D)
    (hh : A.handled = none) (hr : IsRange s.heap r a₀ b₀ (-1) t₀ u₀ v₀) (hsmall : Builtin.Range.small a₀ b₀ (-1) = true) (hn : Builtin.Range.rangeSize a₀ b₀ (-1) = (n : Int))
    (F : Fr h₀ env.locals s.heap m₀) (N : News h₀ env.locals s.heap (led d₀)) (hm : ∀ z, z ≠ x → m₀ z = upd d₀ z) (ha : ∀ d, (led d).map (·.1) = (led d₀).map (·.1)) (hI : Inv 0 d₀)
    (turn : ∀ (i : Nat) t d h tk own, i < n → Inv i d → OwnOff own ((led d₀).map (·.1)) → Fr h₀ env.locals h (fun y => if y = x then some (.int (a₀ - i) t) else upd d y) → News h₀ env.locals h (led d ++ own) →
      wpAny (model prog w) A (execs body env) (LwTurn h₀ env.locals x upd led (Inv (i + 1)) own { s with heap := h, toks := tk } Q) E { s with heap := h, toks := tk })
    (done : ∀ (d : D) (u : Str → Option Value) (h : Heap) (tk : Nat), Inv n d → Fr h₀ env.locals h (fun y => if y = x then u y else upd d y) → News h₀ env.locals h (led d) → Q .next { s with heap := h, toks := tk }) :
    wpAny (model prog w) A (pyIter (.ref r)) (fun it s₂ => LoopAtV prog w A h₀ env x body Q E it s₂) E s := by
  refine wpAny_pyIter_range hr hsmall ?_
  have W : Walks prog w A s.heap.objs.size [s.heap.objs.size] [s.heap.objs.size] n (fun i v => i < n ∧ ∃ t, v = .int (a₀ + i * -1) t)
      (fun i h => IsRangeIter h s.heap.objs.size (a₀ + (i : Nat) * -1) ((n : Int) - (i : Nat)) (-1)) := (Walks.range hh _ a₀ (-1) n).bound
  refine lw_walk upd led Inv d₀ W ?_ ?_ ?_ ?_ (by show IsRangeIter _ _ _ _ _; rw [hn]; simpa using Heap.get?_push_size _ rfl) (F.push _) (fun p hp => ⟨Heap.get?_push_of_some _ (N p hp).1, (N p hp).2⟩) hm ha hI ?_ ?_
  · intro hm
    exact absurd F.ns.lt ((List.mem_singleton.mp hm) ▸ Nat.lt_irrefl _)
  · intro b hb
    rw [List.mem_singleton.mp hb]
    exact next_is_new F
  · intro p hp hI
    exact absurd (Heap.lt_size (N p hp).1) ((List.mem_singleton.mp hI) ▸ Nat.lt_irrefl _)
  · intro p hp hI
    exact absurd (Heap.lt_size (N p hp).1) ((List.mem_singleton.mp hI) ▸ Nat.lt_irrefl _)
  · rintro i v d h tk own hi ⟨_, t, rfl⟩ hId hoff F' N'
    have e : a₀ + (i : Int) * -1 = a₀ - i := by omega
    rw [e] at F'
    exact turn i t d h tk own hi hId hoff F' N'
  · exact done

theorem lw_list {l : Addr} {items : List Value} {m₀ : Str → Option Value}
    (upd : D → Str → Option Value) (led : D → List (Addr × Obj)) (Inv : Nat → D → Prop) (d₀ : D)
    (hh : A.handled = none) (hl : h₀.IsList l items.toArray)
    (F : Fr h₀ env.locals s.heap m₀) (N : News h₀ env.locals s.heap (led d₀)) (hm : ∀ z, z ≠ x → m₀ z = upd d₀ z) (ha : ∀ d, (led d).map (·.1) = (led d₀).map (·.1)) (hI : Inv 0 d₀)
    (turn : ∀ (i : Nat) v d h tk own, items[i]? = some v → Inv i d → OwnOff own ((led d₀).map (·.1)) → Fr h₀ env.locals h (fun y => if y = x then some v else upd d y) → News h₀ env.locals h (led d ++ own) →
      wpAny (model prog w) A (execs body env) (LwTurn h₀ env.locals x upd led (Inv (i + 1)) own { s with heap := h, toks := tk } Q) E { s with heap := h, toks := tk })
    (done : ∀ (d : D) (u : Str → Option Value) (h : Heap) (tk : Nat), Inv items.length d → Fr h₀ env.locals h (fun y => if y = x then u y else upd d y) → News h₀ env.locals h (led d) → Q .next { s with heap := h, toks := tk }) :
    wpAny (model prog w) A (pyIter (.ref l)) (fun it s₂ => LoopAtV prog w A h₀ env x body Q E it s₂) E s := by
  have hls : s.heap.IsList l items.toArray := hl.at fun o e => F.keep l o e
  obtain ⟨ol, hol, _⟩ := id hl
  have hlt : l < h₀.objs.size := Heap.lt_size hol
  have hne : l ≠ s.heap.objs.size := Nat.ne_of_lt (Nat.lt_trans (Nat.lt_of_lt_of_le hlt F.above) F.ns.lt)
  refine wpAny_pyIter_list hls ?_
  have W := Walks.list (prog := prog) (w := w) hh s.heap.objs.size l hne items.toArray
  have hlen : items.toArray.size = items.length := by simp
  rw [hlen] at W
  refine lw_walk upd led Inv d₀ W ?_ ?_ ?_ ?_ ⟨⟨_, Heap.get?_push_size _ rfl, rfl, rfl⟩, hls.at fun o e => Heap.get?_push_of_some _ e⟩ (F.push _) (fun p hp => ⟨Heap.get?_push_of_some _ (N p hp).1, (N p hp).2⟩) hm ha hI ?_ ?_
  · intro hm
    rcases List.mem_cons.mp hm with e | hm
    · exact absurd F.ns.lt (e ▸ Nat.lt_irrefl _)
    · exact absurd (Nat.lt_of_lt_of_le hlt F.above) ((List.mem_singleton.mp hm) ▸ Nat.lt_irrefl _)
  · intro b hb
    rw [List.mem_singleton.mp hb]
    exact next_is_new F
  · intro p hp hI
    exact absurd (Heap.lt_size (N p hp).1) ((List.mem_singleton.mp hI) ▸ Nat.lt_irrefl _)
  · intro p hp hI
    rcases List.mem_cons.mp hI with e | hI
    · exact absurd (Heap.lt_size (N p hp).1) (e ▸ Nat.lt_irrefl _)
    · have h3 := (N p hp).2.2
      rw [List.mem_singleton.mp hI, hol] at h3
      cases h3
  · rintro i v d h tk own hi hP hId hoff F' N'
    exact turn i v d h tk own (by simpa using hP) hId hoff F' N'
  · exact done
end
/-- the two rows of a row of codes -/
def low : List Int → Nat
  | [] => 0
  | b :: r => (b % 2).toNat + 2 * low r
def high : List Int → Nat
  | [] => 0
  | b :: r => (b / 2).toNat + 2 * high r
def Codes (bs : List Int) : Prop := ∀ b ∈ bs, 0 ≤ b ∧ b ≤ 3
def cd (bs : List Int) (i : Nat) : Int := bs.getD i 0

theorem cd_range {bs : List Int} (h : Codes bs) (i : Nat) : 0 ≤ cd bs i ∧ cd bs i ≤ 3 := by
  unfold cd
  rw [List.getD_eq_getElem?_getD]
  by_cases hi : i < bs.length
  · rw [List.getElem?_eq_getElem hi]; exact h _ (List.getElem_mem hi)
  · rw [List.getElem?_eq_none (by omega)]; exact ⟨by decide, by decide⟩
theorem cd_out {bs : List Int} {i : Nat} (h : bs.length ≤ i) : cd bs i = 0 := by
  unfold cd; rw [List.getD_eq_getElem?_getD, List.getElem?_eq_none h]; rfl
theorem cd_at {bs : List Int} {i : Nat} (h : i < bs.length) : cd bs i = bs[i] := by
  unfold cd; rw [List.getD_eq_getElem?_getD, List.getElem?_eq_getElem h]; rfl
theorem codes_cons {b : Int} {r : List Int} (h : Codes (b :: r)) : (0 ≤ b ∧ b ≤ 3) ∧ Codes r := ⟨h b (.head _), fun x hx => h x (.tail _ hx)⟩

theorem low_bit : ∀ {bs : List Int}, Codes bs → ∀ i, (low bs).testBit i = decide (cd bs i % 2 = 1)
  | [], _, i => by simp [low, cd]
  | b :: r, h, i => by
    obtain ⟨hb, hr⟩ := codes_cons h
    cases i with
    | zero =>
      have e : cd (b :: r) 0 = b := rfl
      rw [e, Nat.testBit_zero, low]
      apply decide_eq_decide.mpr
      omega
    | succ i =>
      have e : cd (b :: r) (i + 1) = cd r i := by simp [cd]
      rw [e, Nat.testBit_succ, ← low_bit hr i, low]
      congr 1
      omega
theorem high_bit : ∀ {bs : List Int}, Codes bs → ∀ i, (high bs).testBit i = decide (cd bs i / 2 = 1)
  | [], _, i => by simp [high, cd]
  | b :: r, h, i => by
    obtain ⟨hb, hr⟩ := codes_cons h
    cases i with
    | zero =>
      have e : cd (b :: r) 0 = b := rfl
      rw [e, Nat.testBit_zero, high]
      apply decide_eq_decide.mpr
      omega
    | succ i =>
      have e : cd (b :: r) (i + 1) = cd r i := by simp [cd]
      rw [e, Nat.testBit_succ, ← high_bit hr i, high]
      congr 1
      omega
theorem low_of {x : Nat} {bs : List Int} (hb : Codes bs) (h : ∀ i, x.testBit i = decide (cd bs i % 2 = 1)) : x = low bs := Nat.eq_of_testBit_eq fun i => by rw [h, low_bit hb]
theorem high_of {x : Nat} {bs : List Int} (hb : Codes bs) (h : ∀ i, x.testBit i = decide (cd bs i / 2 = 1)) : x = high bs := Nat.eq_of_testBit_eq fun i => by rw [h, high_bit hb]
theorem low_lt : ∀ (bs : List Int), Codes bs → low bs < 2 ^ bs.length
  | [], _ => by simp [low]
  | b :: r, h => by
    obtain ⟨hb, hr⟩ := codes_cons h
    have := low_lt r hr
    rw [low, List.length_cons, Nat.pow_succ]; omega
theorem high_lt : ∀ (bs : List Int), Codes bs → high bs < 2 ^ bs.length
  | [], _ => by simp [high]
  | b :: r, h => by
    obtain ⟨hb, hr⟩ := codes_cons h
    have := high_lt r hr
    rw [high, List.length_cons, Nat.pow_succ]; omega

/-- a bit of a number that is not negative -/
theorem bit_int (x i : Nat) : ((x : Int) / 2 ^ i % 2) = if x.testBit i then 1 else 0 := by
  rw [Nat.testBit_eq_decide_div_mod_eq]
  have e : ((x : Int) / 2 ^ i % 2) = ((x / 2 ^ i % 2 : Nat) : Int) := by push_cast; rfl
  rw [e]
  by_cases h : x / 2 ^ i % 2 = 1
  · simp [h]
  · have : x / 2 ^ i % 2 = 0 := by omega
    simp [this]
theorem code_law {bs : List Int} (h : Codes bs) (i : Nat) : ((low bs : Int) / 2 ^ i % 2) + 2 * ((high bs : Int) / 2 ^ i % 2) = cd bs i := by
  rw [bit_int, bit_int, low_bit h, high_bit h]
  have := cd_range h i
  by_cases h1 : cd bs i % 2 = 1 <;> by_cases h2 : cd bs i / 2 = 1 <;> simp [h1, h2] <;> omega

theorem pow2_pos (k : Nat) : (0 : Int) < 2 ^ k := kbt_pos k
theorem fdiv_pow (x : Int) (k : Nat) : x.fdiv (2 ^ k) = x / 2 ^ k := Int.fdiv_eq_ediv_of_nonneg _ (Int.le_of_lt (pow2_pos k))
theorem bitAnd_nat (x y : Nat) : Builtin.bitAnd (x : Int) (y : Int) = ((x &&& y : Nat) : Int) := by
  simp [Builtin.bitAnd]
theorem bitOr_nat (x y : Nat) : Builtin.bitOr (x : Int) (y : Int) = ((x ||| y : Nat) : Int) := by
  have h1 : ¬ (0 ≤ Builtin.bitNot (x : Int)) := by rw [kbt_not]; omega
  have h2 : ¬ (0 ≤ Builtin.bitNot (y : Int)) := by rw [kbt_not]; omega
  unfold Builtin.bitOr Builtin.bitAnd
  rw [decide_eq_false h1, decide_eq_false h2]
  simp only [kbt_not]
  have e1 : (-(-(x : Int) - 1) - 1).toNat = x := by omega
  have e2 : (-(-(y : Int) - 1) - 1).toNat = y := by omega
  rw [e1, e2]; omega
theorem or_split (x y : Nat) : (x ||| y) = (x ^^^ y) + (x &&& y) := by
  induction x using Nat.strongRecOn generalizing y with
  | ind x ih =>
    by_cases hx : x = 0
    · subst hx; simp
    · have h := ih (x / 2) (by omega) (y / 2)
      rw [← Nat.or_div_two, ← Nat.xor_div_two, ← Nat.and_div_two] at h
      have a1 := Nat.or_mod_two_eq_one (a := x) (b := y)
      have a2 := Nat.xor_mod_two_eq_one (a := x) (b := y)
      have a3 := Nat.and_mod_two_eq_one (a := x) (b := y)
      generalize x ||| y = p at *
      generalize x ^^^ y = q at *
      generalize x &&& y = r at *
      by_cases hx2 : x % 2 = 1 <;> by_cases hy2 : y % 2 = 1 <;> simp only [hx2, hy2] at a1 a2 a3 <;> simp at a1 a2 a3 <;> omega
theorem bitXor_nat (x y : Nat) : Builtin.bitXor (x : Int) (y : Int) = ((x ^^^ y : Nat) : Int) := by
  unfold Builtin.bitXor
  rw [bitOr_nat, bitAnd_nat, or_split]; omega
theorem cast_pow2 (k : Nat) : ((2 : Int) ^ k) = ((2 ^ k : Nat) : Int) := (kbt_cast k).symm
theorem mask_nat (k : Nat) : ((2 : Int) ^ k - 1) = ((2 ^ k - 1 : Nat) : Int) := by
  have : 0 < 2 ^ k := Nat.two_pow_pos k
  rw [cast_pow2]; omega
theorem shr_nat (x k : Nat) : ((x : Int).fdiv (2 ^ k)) = ((x >>> k : Nat) : Int) := by
  rw [fdiv_pow, Nat.shiftRight_eq_div_pow]; push_cast; rfl
theorem shl_nat (x k : Nat) : ((x : Int) * 2 ^ k) = ((x <<< k : Nat) : Int) := by
  rw [Nat.shiftLeft_eq]; push_cast; rfl
theorem low_append (ys : List Int) : ∀ xs : List Int, low (xs ++ ys) = low xs + 2 ^ xs.length * low ys
  | [] => by simp [low]
  | x :: r => by
    rw [List.cons_append, low, low, low_append ys r, List.length_cons, Nat.pow_succ, Nat.mul_comm (2 ^ r.length) 2, Nat.mul_assoc]
    omega
theorem high_append (ys : List Int) : ∀ xs : List Int, high (xs ++ ys) = high xs + 2 ^ xs.length * high ys
  | [] => by simp [high]
  | x :: r => by
    rw [List.cons_append, high, high, high_append ys r, List.length_cons, Nat.pow_succ, Nat.mul_comm (2 ^ r.length) 2, Nat.mul_assoc]
    omega
theorem codes_append {xs ys : List Int} (hx : Codes xs) (hy : Codes ys) : Codes (xs ++ ys) := fun b hb => (List.mem_append.mp hb).elim (hx b) (hy b)
theorem codes_take {xs : List Int} (hx : Codes xs) (n : Nat) : Codes (xs.take n) := fun b hb => hx b (List.mem_of_mem_take hb)
theorem take_snoc {bs : List Int} {n : Nat} (h : n < bs.length) : bs.take (n + 1) = bs.take n ++ [cd bs n] := by
  rw [cd_at h, List.take_succ_eq_append_getElem h]
theorem low_snoc {bs : List Int} (b : Int) (h : Codes bs) : (low (bs ++ [b]) : Int) = Builtin.bitOr (low bs : Int) ((b % 2) * 2 ^ bs.length) ∧ (low (bs ++ [b]) : Int) = low bs + b % 2 * 2 ^ bs.length := by
  have hb : b % 2 = ((b % 2).toNat : Int) := by omega
  have e : low (bs ++ [b]) = low bs + 2 ^ bs.length * (b % 2).toNat := by rw [low_append]; simp [low]
  constructor
  · rw [hb, shl_nat, bitOr_nat, e, Nat.or_comm, ← Nat.shiftLeft_add_eq_or_of_lt (low_lt bs h), Nat.shiftLeft_eq, Nat.mul_comm, Nat.add_comm]
  · rw [hb, e]; push_cast; rw [Int.mul_comm]
theorem high_snoc {bs : List Int} (b : Int) (h : Codes bs) (hb0 : 0 ≤ b) : (high (bs ++ [b]) : Int) = Builtin.bitOr (high bs : Int) ((b / 2) * 2 ^ bs.length) ∧ (high (bs ++ [b]) : Int) = high bs + b / 2 * 2 ^ bs.length := by
  have hb : b / 2 = ((b / 2).toNat : Int) := by omega
  have e : high (bs ++ [b]) = high bs + 2 ^ bs.length * (b / 2).toNat := by rw [high_append]; simp [high]
  constructor
  · rw [hb, shl_nat, bitOr_nat, e, Nat.or_comm, ← Nat.shiftLeft_add_eq_or_of_lt (high_lt bs h), Nat.shiftLeft_eq, Nat.mul_comm, Nat.add_comm]
  · rw [hb, e]; push_cast; rw [Int.mul_comm]
theorem foldl_push {α β : Type} (f : α → β) : ∀ (l : List α) (acc : List β), l.foldl (fun a k => a ++ [f k]) acc = acc ++ l.map f
  | [], acc => by simp
  | x :: r, acc => by rw [List.foldl_cons, foldl_push f r, List.map_cons, List.append_assoc]; rfl
/-- a row read place by place is the row -/
theorem range_cd (bs : List Int) : (List.range bs.length).map (cd bs) = bs := by
  apply List.ext_getElem
  · simp
  · intro i h1 h2
    simp only [List.getElem_map, List.getElem_range]
    exact cd_at h2
local macro_rules | `(tactic| walk_at "execs cons If") => `(tactic| k_extra "lw if")
local macro_rules | `(tactic| walk_at "call builtin:str.find") => `(tactic| k_extra "lw find")
local macro_rules | `(tactic| walk_at "eval ListComp") => `(tactic| k_extra "lw comp")
local macro_rules | `(tactic| walk_at "CompSrc") => `(tactic| k_extra "lw src")
local macro_rules | `(tactic| walk_at "eval IfExp") => `(tactic| k_extra "lw ifexp")
local macro_rules | `(tactic| walk_at "exec For Name Subscript cons nil") => `(tactic| k_extra "lw for")
local macro_rules | `(tactic| walk_at "pyIter ref") => `(tactic| k_extra "lw iter")
local macro_rules | `(tactic| walk_at "binaryOp Mult int int") => `(tactic| k_extra "lw mul")
local macro_rules | `(tactic| walk_at "subscriptTail") => `(tactic| k_extra "lw sub")
local macro_rules | `(tactic| walk_at "execs cons Assign cons") => `(tactic| k_extra "lw assign")
local macro_rules | `(tactic| walk_at "call ref") => `(tactic| k_extra "lw call")
local macro_rules | `(tactic| walk_at "binaryOp LShift int int") => `(tactic| k_extra "lw shl")
local macro_rules | `(tactic| walk_at "assign Tuple") => `(tactic| k_extra "lw unpack")
local macro_rules | `(tactic| walk_at "binaryOp Mult ref int") => `(tactic| k_extra "lw mulr")
local macro_rules | `(tactic| walk_at "exec For Name Name cons nil") => `(tactic| k_extra "lw for")
local macro_rules | `(tactic| walk_at "exec For Name Call cons nil") => `(tactic| k_extra "lw forr")
theorem lw_wordsJ : True := by
  k_with "lw_enter" => (unfold Spec; k_fill; intro dp un gd cn cs a ccd cl outer A₀ base h₀ L m loose mean mg mb s Q E B F X T hk hdp hun hpre hret; k_dflt (refine' call_G ?k0 ?k1 ?k2 ?k3 ?k5 ?kA ?kF ?kK ?k6 ?k7 ?k8 ?k9 ?kB ?_ ?c2 ?c3 ?c4 ?c5; ((case kA => exact rfl); (case kF => exact rfl); (case kK => assumption); (case k0 => with_reducible assumption); (case k1 => k_asm); (case k2 => k_asm); (case k3 => k_asm); (case k5 => k_asm); (case k6 => k_is); (case k7 => k_is); (case k8 => ktr_room); (case k9 => first | exact BindsTo.of_eq rfl | exact binds_K (by k_in) rfl (by k_is) rfl rfl rfl); (case c5 => decide); (case kB => exact locs rfl); (case c2 => exact rfl); (case c3 => exact rfl); (case c4 => exact rfl)); k_whole; intro L' h' tk₁ F' N' B' X' T'; (try dsimp only); (try k_fold)))
  k_with "lw_enterR" => (unfold SpecR; k_fill; intro dp un gd cn cs a ccd cl outer A₀ base h₀ L m loose mean mg mb s Q E ro B F N hok X T hk hdp hun hpre hret; obtain ⟨usR, nR, nsR, hok, hIR, hrR, hlR⟩ := hok; subst hok; k_dflt (refine' call_GR ?k0 ?k1 ?k2 ?kN ?k3 ?k5 ?kA ?kF ?kK ?k6 ?k7 ?k8 ?k9 ?kB ?_ ?c2 ?c3 ?c4 ?c5; (case kN => exact N); ((case kA => exact rfl); (case kF => exact rfl); (case kK => assumption); (case k0 => with_reducible assumption); (case k1 => k_asm); (case k2 => k_asm); (case k3 => k_asm); (case k5 => k_asm); (case k6 => k_is); (case k7 => k_is); (case k8 => ktr_room); (case k9 => first | exact BindsTo.of_eq rfl | exact binds_K (by k_in) rfl (by k_is) rfl rfl rfl); (case c5 => decide); (case kB => exact locs rfl); (case c2 => exact rfl); (case c3 => exact rfl); (case c4 => exact rfl)); k_whole; intro g' L' h' tk₁ hkeep F' N' B' X' T'; (try dsimp only); (try k_fold)))
  k_with "lw_tup" => first | with_reducible assumption | exact News.get (by k_asm) (by k_mem) | exact Fr.keep (by k_asm) _ _ (by assumption)
  k_with "lw sub" => (k_here; (with_reducible show wpAny _ _ (subscriptTail _ (Expr.Constant _ _ _) (Value.ref _) (Value.int _ _)) _ _ _); k_dflt (refine' item_tupleT (isTup_get (by k_extra "lw_tup")) (by decide) (by decide) (by exact rfl) (by exact rfl) ?_; k_whole))
  k_with "lw assign" => (k_here; (with_reducible refine wpAny_execs_cons ?_); (try dsimp only))
  k_with "lw shl" => (k_here; with_reducible refine lshift_int (by omega) (by first | exact shl_mask (by omega) (by omega) | exact shl_and (by omega) (by omega)) ?_)
  k_with "lw shl" => (k_here; with_reducible refine lshift_int (by omega) (by first | exact shl_a (by assumption) (by omega) | exact shl_b (by assumption) (by omega)) ?_)
  k_with "lw shl" => (k_here; with_reducible refine lshift_int (by omega) (by first | exact shl_low (by assumption) (by omega) (by omega) | exact shl_high (by assumption) (by omega) (by omega)) ?_)
  k_with "lw unpack" => (k_here; (with_reducible show wpAny _ _ (assign (Expr.Tuple _ _ _) _ (Value.ref _)) _ _ _); k_dflt (refine' unpackN_ (by k_asm) (by k_asm) (isTup_get (by k_extra "lw_tup")) (by exact rfl) (by exact rfl) (by exact rfl) ?_; k_whole); intro h' F' N'; (try k_sweep))
  k_with "lw for" => ((with_reducible rename LwLoop => hl9); k_here; (with_unfolding_all refine' For_invVF (by k_asm) (by exact rfl) (by exact rfl) ?_; k_whole))
  k_with "lw forr" => ((with_reducible rename LwLoop => hl9); k_here; (with_unfolding_all refine' For_invVF (by k_asm) (by exact rfl) (by exact rfl) ?_; k_whole))
  k_with "lw ifexp" => ((with_reducible rename LwLoop => hl9); refine lw_stop ?_)
  k_with "lw end" => exact ends_of (by assumption) (by assumption) (fun p hp => by repeat (first | exact hp | refine List.Mem.tail _ ?_))
  k_with "lw if" => ((with_reducible rename LwHop => hh9); refine lw_stop ?_)
  k_with "lw comp" => ((with_reducible rename LwLoop => hl9); refine lw_stop ?_)
  k_with "lw src" => ((with_reducible rename LwLoop => hl9); refine lw_stop ?_)
  k_with "lw sub" => ((with_reducible show wpAny _ _ (subscriptTail _ _ (Value.str _ _) (Value.int _ _)) _ _ _); k_here; (refine item_str (fitsSsize_of (N := 9223372036854775808) (by omega) (by omega) (Int.le_refl _)) (by omega) (by omega) ?_); intro _)
  k_with "lw sub" => ((with_reducible show wpAny _ _ (subscriptTail (Expr.Tuple _ _ _) (Expr.Name _ _) (Value.ref _) (Value.int _ _)) _ _ _); k_here; refine lw_stop ?_)
  k_with "lw find" => (refine lw_stop ?_)
  k_with "lw iter" => ((with_reducible rename LwLoop => hl9); refine lw_stop ?_)
  k_with "lw mul" => (k_here; with_reducible refine mul_int ?_ (IntMulOk.of_left (by first | with_reducible exact mulb_two | exact mulb_a (by assumption) | exact mulb_b (by assumption) | exact mulb_c (by assumption))))
  k_with "lw mulr" => ((with_reducible rename LwMark => hm9); refine lw_stop ?_)
  k_with "lw call" => ((with_reducible show wpAny _ _ (call (Value.ref 54) _) _ _ _); k_here; k_dflt (refine' use_int (mask_spec _ _ _) (by k_asm) (by k_asm) (by k_asm) (by k_asm) (by k_asm) (by first | exact rfl | assumption) (by ktr_room) (by ktr_units) (by (try dsimp only); omega) ?_; k_whole; intro t9 h9 tk9 F9 N9; (try k_sweep); (try dsimp only); (try k_fold)))
  k_with "lw call" => ((with_reducible show wpAny _ _ (call (Value.ref 62) _) _ _ _); k_here; k_dflt (refine' use_tup (vec_spec _ _ _ _ _ _ _) (by k_asm) (by k_asm) (by k_asm) (by k_asm) (by k_asm) (by first | exact rfl | assumption) (by ktr_room) (by ktr_units) (by (try dsimp only); omega) ?_; k_whole; intro r9 tx9 ty9 tz9 h9 tk9 F9 N9 l9; (try ((with_reducible rename LwPre => hp9); (simp only [AllNe, and_true] at l9))); (try k_sweep); (try dsimp only); (try k_fold)))
  k_with "lw call" => ((with_reducible show wpAny _ _ (call (Value.ref 83) _) _ _ _); k_here; k_dflt (refine' use_tup (all_x_spec _ _ _) (by k_asm) (by k_asm) (by k_asm) (by k_asm) (by k_asm) (by first | exact rfl | assumption) (by ktr_room) (by ktr_units) (by (try dsimp only); omega) ?_; k_whole; intro r9 tx9 ty9 tz9 h9 tk9 F9 N9 l9; (try ((with_reducible rename LwPre => hp9); (simp only [AllNe, and_true] at l9))); (try k_sweep); (try dsimp only); (try k_fold)))
  k_with "lw call" => ((with_reducible show wpAny _ _ (call (Value.ref 118) _) _ _ _); k_here; k_dflt (refine' use_int (code_spec _ _ _ _ _ _ _ _) (by k_asm) (by k_asm) (by k_asm) (by k_asm) (by k_asm) (by first | exact rfl | assumption) (by ktr_room) (by ktr_units) (by exact ⟨by k_extra "lw_tup", by assumption, by (try dsimp only); omega, by (try dsimp only); omega⟩) ?_; k_whole; intro t9 h9 tk9 F9 N9; (try k_sweep); (try dsimp only); (try k_fold)))
  k_with "lw call" => ((with_reducible show wpAny _ _ (call (Value.ref 223) _) _ _ _); k_here; k_dflt (refine' use_tup (made_spec _ _ _ _) (by k_asm) (by k_asm) (by k_asm) (by k_asm) (by k_asm) (by first | exact rfl | assumption) (by ktr_room) (by ktr_units) (by exact made_pre (by is_list) (by assumption) (by assumption) (by first | omega | assumption)) ?_; k_whole; intro r9 tx9 ty9 tz9 h9 tk9 F9 N9 l9; (try ((with_reducible rename LwPre => hp9); (simp only [AllNe, and_true] at l9))); (try k_sweep); (try dsimp only); (try k_fold)))
  k_with "lw call" => ((with_reducible show wpAny _ _ (call (Value.ref 132) _) _ _ _); k_here; k_dflt (refine' use_tup (from_codes_spec _ _ _ _) (by k_asm) (by k_asm) (by k_asm) (by k_asm) (by k_asm) (by first | exact rfl | assumption) (by ktr_room) (by ktr_units) (by exact made_pre (by is_list) (by assumption) (by assumption) (by first | omega | assumption)) ?_; k_whole; intro r9 tx9 ty9 tz9 h9 tk9 F9 N9 l9; (try ((with_reducible rename LwPre => hp9); (simp only [AllNe, and_true] at l9))); (try k_sweep); (try dsimp only); (try k_fold)))
  k_with "lw call" => ((with_reducible show wpAny _ _ (call (Value.ref 125) _) _ _ _); k_here; k_dflt (refine' use_list (codes_spec _ _ _ _ _ _) (by k_asm) (by k_asm) (by k_asm) (by k_asm) (by k_asm) (by first | exact rfl | assumption) (by ktr_room) (by ktr_units) (by exact ⟨by k_extra "lw_tup", by assumption, by omega⟩) ?_; k_whole; intro r9 n9 its9 h9 tk9 F9 N9 I9 l9; (try ((with_reducible rename LwPre => hp9); (simp only [AllNe, and_true] at l9))); (try k_sweep); (try dsimp only); (try k_fold)))
  k_with "lw call" => ((with_reducible show wpAny _ _ (call (Value.ref 139) _) _ _ _); k_here; k_dflt (refine' use_tup (slice_spec _ _ _ _ _ _ _ _ _ _) (by k_asm) (by k_asm) (by k_asm) (by k_asm) (by k_asm) (by first | exact rfl | assumption) (by ktr_room) (by ktr_units) (by exact ⟨by k_extra "lw_tup", by assumption, by omega, by omega, by omega, by omega, by omega⟩) ?_; k_whole; intro r9 tx9 ty9 tz9 h9 tk9 F9 N9 l9; (try ((with_reducible rename LwPre => hp9); (simp only [AllNe, and_true] at l9))); (try k_sweep); (try dsimp only); (try k_fold)))
  k_with "lw call" => ((with_reducible show wpAny _ _ (call (Value.ref 160) _) _ _ _); k_here; k_dflt (refine' use_tup (repeat2_spec _ _ _ _ _ _ _ _) (by k_asm) (by k_asm) (by k_asm) (by k_asm) (by k_asm) (by first | exact rfl | assumption) (by ktr_room) (by ktr_units) (by exact ⟨by k_extra "lw_tup", by assumption, by omega, by omega, by omega⟩) ?_; k_whole; intro r9 tx9 ty9 tz9 h9 tk9 F9 N9 l9; (try ((with_reducible rename LwPre => hp9); (simp only [AllNe, and_true] at l9))); (try k_sweep); (try dsimp only); (try k_fold)))
  k_with "lw call" => ((with_reducible show wpAny _ _ (call (Value.ref 167) _) _ _ _); k_here; k_dflt (refine' use_tup (extend_spec _ _ _ _ _ _ _ _ _) (by k_asm) (by k_asm) (by k_asm) (by k_asm) (by k_asm) (by first | exact rfl | assumption) (by ktr_room) (by ktr_units) (by exact ⟨by k_extra "lw_tup", by assumption, by omega, by omega, by omega, by omega⟩) ?_; k_whole; intro r9 tx9 ty9 tz9 h9 tk9 F9 N9 l9; (try ((with_reducible rename LwPre => hp9); (simp only [AllNe, and_true] at l9))); (try k_sweep); (try dsimp only); (try k_fold)))
  k_with "lw call" => ((with_reducible show wpAny _ _ (call (Value.ref 174) _) _ _ _); k_here; k_dflt (refine' use_str (btext_spec _ _ _ _ _ _) (by k_asm) (by k_asm) (by k_asm) (by k_asm) (by k_asm) (by first | exact rfl | assumption) (by ktr_room) (by ktr_units) (by exact ⟨by k_extra "lw_tup", by assumption, by omega⟩) ?_; k_whole; intro t9 h9 tk9 F9 N9; (try k_sweep); (try dsimp only); (try k_fold)))
  k_with "lw call" => ((with_reducible show wpAny _ _ (call (Value.ref 235) _) _ _ _); k_here; k_dflt (refine' use_strT (text_spec _ _ _ _) (by k_asm) (by k_asm) (by k_asm) (by k_asm) (by k_asm) (by first | exact rfl | assumption) (by ktr_room) (by ktr_units) (by exact ⟨by is_list, by assumption, by assumption, by omega⟩) ?_; k_whole; intro t9 h9 tk9 g9 F9 N9; (try k_sweep); (try dsimp only); (try k_fold)))
  k_with "lw call" => ((with_reducible show wpAny _ _ (call (Value.ref 181) _) _ _ _); k_here; k_dflt (refine' use_tupT (from_text_spec _ _ _ _) (by k_asm) (by k_asm) (by k_asm) (by k_asm) (by k_asm) (by first | exact rfl | assumption) (by ktr_room) (by ktr_units) (by exact ⟨by assumption, by assumption, by omega⟩) ?_; k_whole; intro r9 tx9 ty9 tz9 h9 tk9 g9 F9 N9 l9; (try ((with_reducible rename LwPre => hp9); (simp only [AllNe, and_true] at l9))); (try k_sweep); (try dsimp only); (try k_fold)))
  k_with "lw call" => ((with_reducible show wpAny _ _ (call (Value.ref 188) _) _ _ _); k_here; k_dflt (refine' use_tup (z_to_x_spec _ _ _ _ _ _) (by k_asm) (by k_asm) (by k_asm) (by k_asm) (by k_asm) (by first | exact rfl | assumption) (by ktr_room) (by ktr_units) (by exact ⟨by k_extra "lw_tup", by assumption⟩) ?_; k_whole; intro r9 tx9 ty9 tz9 h9 tk9 F9 N9 l9; (try ((with_reducible rename LwPre => hp9); (simp only [AllNe, and_true] at l9))); (try k_sweep); (try dsimp only); (try k_fold)))
  k_with "lw call" => ((with_reducible show wpAny _ _ (call (Value.ref 195) _) _ _ _); k_here; k_dflt (refine' use_int (truth_spec _ _ _ _ _ _) (by k_asm) (by k_asm) (by k_asm) (by k_asm) (by k_asm) (by first | exact rfl | assumption) (by ktr_room) (by ktr_units) (by exact ⟨by k_extra "lw_tup", by assumption, by omega⟩) ?_; k_whole; intro t9 h9 tk9 F9 N9; (try k_sweep); (try dsimp only); (try k_fold)))
  k_with "lw call" => ((with_reducible show wpAny _ _ (call (Value.ref 104) _) _ _ _); k_here; k_dflt (refine' use_bool (is_known_spec _ _ _ _ _ _) (by k_asm) (by k_asm) (by k_asm) (by k_asm) (by k_asm) (by first | exact rfl | assumption) (by ktr_room) (by ktr_units) (by exact by k_extra "lw_tup") ?_; k_whole; intro h9 tk9 F9 N9; (try k_sweep); (try dsimp only); (try k_fold)))
  k_with "lw call" => ((with_reducible show wpAny _ _ (call (Value.ref 97) _) _ _ _); k_here; k_dflt (refine' use_tup (from_int_spec _ _ _ _ _) (by k_asm) (by k_asm) (by k_asm) (by k_asm) (by k_asm) (by first | exact rfl | assumption) (by ktr_room) (by ktr_units) (by (try dsimp only); omega) ?_; k_whole; intro r9 tx9 ty9 tz9 h9 tk9 F9 N9 l9; (try ((with_reducible rename LwPre => hp9); (simp only [AllNe, and_true] at l9))); (try k_sweep); (try dsimp only); (try k_fold)))
  k_with "lw call" => ((with_reducible show wpAny _ _ (call (Value.ref 69) _) _ _ _); k_here; k_dflt (refine' use_tup (zeros_spec _ _ _) (by k_asm) (by k_asm) (by k_asm) (by k_asm) (by k_asm) (by first | exact rfl | assumption) (by ktr_room) (by ktr_units) (by (try dsimp only); omega) ?_; k_whole; intro r9 tx9 ty9 tz9 h9 tk9 F9 N9 l9; (try ((with_reducible rename LwPre => hp9); (simp only [AllNe, and_true] at l9))); (try k_sweep); (try dsimp only); (try k_fold)))
  k_with "lw call" => ((with_reducible show wpAny _ _ (call (Value.ref 76) _) _ _ _); k_here; k_dflt (refine' use_tup (ones_spec _ _ _) (by k_asm) (by k_asm) (by k_asm) (by k_asm) (by k_asm) (by first | exact rfl | assumption) (by ktr_room) (by ktr_units) (by (try dsimp only); omega) ?_; k_whole; intro r9 tx9 ty9 tz9 h9 tk9 F9 N9 l9; (try ((with_reducible rename LwPre => hp9); (simp only [AllNe, and_true] at l9))); (try k_sweep); (try dsimp only); (try k_fold)))
  k_with "lw call" => ((with_reducible show wpAny _ _ (call (Value.ref 90) _) _ _ _); k_here; k_dflt (refine' use_tup (all_z_spec _ _ _) (by k_asm) (by k_asm) (by k_asm) (by k_asm) (by k_asm) (by first | exact rfl | assumption) (by ktr_room) (by ktr_units) (by (try dsimp only); omega) ?_; k_whole; intro r9 tx9 ty9 tz9 h9 tk9 F9 N9 l9; (try ((with_reducible rename LwPre => hp9); (simp only [AllNe, and_true] at l9))); (try k_sweep); (try dsimp only); (try k_fold)))
  k_with "lw call" => ((with_reducible show wpAny _ _ (call (Value.ref 111) _) _ _ _); k_here; k_dflt (refine' use_none (to_int_none _ _ _ _ _ _ _ _ _) (by k_asm) (by k_asm) (by k_asm) (by k_asm) (by k_asm) (by first | exact rfl | assumption) (by ktr_room) (by ktr_units) (by exact ⟨by k_extra "lw_tup", by assumption, by omega, by omega⟩) ?_; k_whole; intro h9 tk9 F9 N9; (try k_sweep); (try dsimp only); (try k_fold)))
  k_with "lw call" => ((with_reducible show wpAny _ _ (call (Value.ref 111) _) _ _ _); k_here; k_dflt (refine' use_int (to_int_some _ _ _ _ _ _ _ _ _) (by k_asm) (by k_asm) (by k_asm) (by k_asm) (by k_asm) (by first | exact rfl | assumption) (by ktr_room) (by ktr_units) (by exact ⟨by k_extra "lw_tup", by first | assumption | rfl, by omega, by omega⟩) ?_; k_whole; intro t9 h9 tk9 F9 N9; (try k_sweep); (try dsimp only); (try k_fold)))
  k_with "lw call" => ((with_reducible show wpAny _ _ (call (Value.ref 230) _) _ _ _); k_here; k_dflt (refine' use_none (number_none _ _ _ _ _) (by k_asm) (by k_asm) (by k_asm) (by k_asm) (by k_asm) (by first | exact rfl | assumption) (by ktr_room) (by ktr_units) (by exact ⟨by is_list, by assumption, by assumption, by assumption, by omega, by omega⟩) ?_; k_whole; intro h9 tk9 F9 N9; (try k_sweep); (try dsimp only); (try k_fold)))
  k_with "lw call" => ((with_reducible show wpAny _ _ (call (Value.ref 230) _) _ _ _); k_here; k_dflt (refine' use_int (number_some _ _ _ _ _) (by k_asm) (by k_asm) (by k_asm) (by k_asm) (by k_asm) (by first | exact rfl | assumption) (by ktr_room) (by ktr_units) (by exact ⟨by is_list, by assumption, by assumption, by assumption, by omega, by omega⟩) ?_; k_whole; intro t9 h9 tk9 F9 N9; (try k_sweep); (try dsimp only); (try k_fold)))
  k_with "lw call" => ((with_reducible show wpAny _ _ (call (Value.ref 242) _) _ _ _); k_here; k_dflt (refine' use_read (by k_asm) (by k_asm) (by k_asm) (by k_asm) (by k_asm) (by first | exact rfl | assumption) (by ktr_room) (by ktr_units) (by exact ⟨by assumption, by omega⟩) ?_; k_whole; intro r9 t8 t9 h9 tk9 F9 N9; (try k_sweep); (try dsimp only); (try k_fold)))
  k_with "lw call" => ((with_reducible show wpAny _ _ (call (Value.ref 153) _) _ _ _); k_here; k_dflt (refine' use_tup (concat2_spec _ _ _ _ _ _) (by k_asm) (by k_asm) (by k_asm) (by k_asm) (by k_asm) (by first | exact rfl | assumption) (by ktr_room) (by ktr_units) (by exact ⟨by is_list, ⟨⟨_, _, _, by k_extra "lw_tup"⟩, by assumption, by omega⟩, ⟨⟨_, _, _, by k_extra "lw_tup"⟩, by assumption, by omega⟩⟩) ?_; k_whole; intro r9 tx9 ty9 tz9 h9 tk9 F9 N9 l9; (try ((with_reducible rename LwPre => hp9); (simp only [AllNe, and_true] at l9))); (try k_sweep); (try dsimp only); (try k_fold)))
  k_with "lw call" => ((with_reducible show wpAny _ _ (call (Value.ref 153) _) _ _ _); k_here; k_dflt (refine' use_tup (concat3_spec _ _ _ _ _ _ _ _) (by k_asm) (by k_asm) (by k_asm) (by k_asm) (by k_asm) (by first | exact rfl | assumption) (by ktr_room) (by ktr_units) (by exact ⟨by is_list, ⟨⟨_, _, _, by k_extra "lw_tup"⟩, by assumption, by omega⟩, ⟨⟨_, _, _, by k_extra "lw_tup"⟩, by assumption, by omega⟩, ⟨⟨_, _, _, by k_extra "lw_tup"⟩, by assumption, by omega⟩⟩) ?_; k_whole; intro r9 tx9 ty9 tz9 h9 tk9 F9 N9 l9; (try ((with_reducible rename LwPre => hp9); (simp only [AllNe, and_true] at l9))); (try k_sweep); (try dsimp only); (try k_fold)))
  k_with "lw call" => ((with_reducible show wpAny _ _ (call (Value.ref 202) _) _ _ _); k_here; k_dflt (refine' use_new (row_spec _ _ _ _) (by k_asm) (by k_asm) (by k_asm) (by k_asm) (by k_asm) (by first | exact rfl | assumption) (by ktr_room) (by ktr_units) (by exact ⟨by is_list, by assumption, by assumption⟩) ?_; k_whole; intro r9 ro9 h9 tk9 F9 N9 ok9 l9; (try ((with_reducible rename LwPre => hp9); (simp only [AllNe, and_true] at l9))); (try k_sweep); (try dsimp only); (try k_fold)))
  k_with "lw call" => ((with_reducible show wpAny _ _ (call (Value.ref 216) _) _ _ _); k_here; k_dflt (refine' use_rowL (bits_spec _ _ _ _) (by k_asm) (by k_asm) (by k_asm) (by k_asm) (by first | with_reducible assumption | k_updF) (by assumption) (by k_asm) (by first | exact rfl | assumption) (by ktr_room) (by ktr_units) (by exact bits_pre _ (by decide)) ?_; k_whole; intro r9 n9 its9 bs9 h9 tk9 ro9 C9 L9 I9 F9 N9 ok9 l9; (have lb9 := bits_len L9 (by decide)); clear L9; (try ((with_reducible rename LwPre => hp9); (simp only [AllNe, and_true] at l9))); (try k_sweep); (try dsimp only); (try k_fold)))
  k_with "lw call" => ((with_reducible show wpAny _ _ (call (Value.ref 209) _) _ _ _); k_here; k_dflt (refine' use_row (next_spec _ _) (by k_asm) (by k_asm) (by k_asm) (by k_asm) (by first | with_reducible assumption | k_updF) (by assumption) (by k_asm) (by first | exact rfl | assumption) (by ktr_room) (by ktr_units) (by trivial) ?_; k_whole; intro v9 h9 tk9 ro9 F9 N9 ok9 l9 p9; obtain ⟨x9, t9, rfl, hx9, hy9⟩ := p9; (try k_sweep); (try dsimp only); (try k_fold)))
  trivial
set_option maxHeartbeats 8000000 in
theorem mask_spec (w : World) (n : Int) (tk : Tok) : Spec w 1 54 [.int n tk] (fun _ => 0 ≤ n ∧ n ≤ 2000) (IntIs (2 ^ n.toNat - 1)) := by
  have hn : LwNames [Str.ofString "w"] := trivial
  k_extra "lw_enter"
  k_steps
  refine end_int (s := s) hret (by k_asm) ?_
  omega
set_option maxHeartbeats 8000000 in
theorem vec_spec (w : World) (n x y : Int) (tk tx ty : Tok) : Spec w 2 62 [.int n tk, .int x tx, .int y ty] (fun _ => 0 ≤ n ∧ n ≤ 2000) (TupIs n (x % 2 ^ n.toNat) (y % 2 ^ n.toNat)) := by
  have hn : LwNames [Str.ofString "w", Str.ofString "a", Str.ofString "b"] := trivial
  k_extra "lw_enter"
  k_steps
  refine end_tup (s := s) hret (by k_asm) (by k_asm) (by k_mem) rfl ?_ ?_
  · exact kbt_mask _ _
  · exact kbt_mask _ _
set_option maxHeartbeats 8000000 in
theorem zeros_spec (w : World) (n : Int) (tk : Tok) : Spec w 2 69 [.int n tk] (fun _ => 0 ≤ n ∧ n ≤ 2000) (TupIs n 0 0) := by
  have hn : LwNames [Str.ofString "w"] := trivial
  k_extra "lw_enter"
  k_steps
  exact end_tup (s := s) hret (by k_asm) (by k_asm) (by k_mem) rfl rfl rfl
set_option maxHeartbeats 8000000 in
theorem ones_spec (w : World) (n : Int) (tk : Tok) : Spec w 2 76 [.int n tk] (fun _ => 0 ≤ n ∧ n ≤ 2000) (TupIs n (2 ^ n.toNat - 1) 0) := by
  have hn : LwNames [Str.ofString "w"] := trivial
  k_extra "lw_enter"
  k_steps
  exact end_tup (s := s) hret (by k_asm) (by k_asm) (by k_mem) rfl rfl rfl
set_option maxHeartbeats 8000000 in
theorem all_x_spec (w : World) (n : Int) (tk : Tok) : Spec w 2 83 [.int n tk] (fun _ => 0 ≤ n ∧ n ≤ 2000) (TupIs n (2 ^ n.toNat - 1) (2 ^ n.toNat - 1)) := by
  have hn : LwNames [Str.ofString "w"] := trivial
  k_extra "lw_enter"
  k_steps
  exact end_tup (s := s) hret (by k_asm) (by k_asm) (by k_mem) rfl rfl rfl
set_option maxHeartbeats 8000000 in
theorem all_z_spec (w : World) (n : Int) (tk : Tok) : Spec w 2 90 [.int n tk] (fun _ => 0 ≤ n ∧ n ≤ 2000) (TupIs n 0 (2 ^ n.toNat - 1)) := by
  have hn : LwNames [Str.ofString "w"] := trivial
  k_extra "lw_enter"
  k_steps
  exact end_tup (s := s) hret (by k_asm) (by k_asm) (by k_mem) rfl rfl rfl
set_option maxHeartbeats 8000000 in
theorem from_int_spec (w : World) (n x : Int) (tk tx : Tok) : Spec w 2 97 [.int n tk, .int x tx] (fun _ => 0 ≤ n ∧ n ≤ 2000) (TupIs n (x % 2 ^ n.toNat) 0) := by
  have hn : LwNames [Str.ofString "w", Str.ofString "n"] := trivial
  k_extra "lw_enter"
  k_steps
  exact end_tup (s := s) hret (by k_asm) (by k_asm) (by k_mem) rfl (kbt_mask _ _) rfl
abbrev vecObj (bs : List Int) (tx ty tz : Tok) : Obj := tupObj (t3 (bs.length : Int) (low bs : Int) (high bs : Int) tx ty tz)
abbrev VecIs (bs : List Int) : Heap → Heap → Value → Prop := TupIs (bs.length : Int) (low bs : Int) (high bs : Int)
set_option maxHeartbeats 8000000 in
theorem is_known_spec (w : World) (v : Addr) (bs : List Int) (tx ty tz : Tok) : Spec w 1 104 [.ref v] (fun h => h.get? v = some (vecObj bs tx ty tz)) (BoolIs (decide (high bs = 0))) := by
  have hn : LwNames [Str.ofString "v"] := trivial
  k_extra "lw_enter"
  k_steps
  refine end_bool (s := s) hret (by k_asm) ?_
  rw [Bool.eq_iff_iff]; simp
set_option maxHeartbeats 8000000 in
theorem code_spec (w : World) (v : Addr) (bs : List Int) (tx ty tz : Tok) (i : Int) (ti : Tok) : Spec w 1 118 [.ref v, .int i ti] (fun h => h.get? v = some (vecObj bs tx ty tz) ∧ Codes bs ∧ 0 ≤ i ∧ i ≤ 2000) (IntIs (cd bs i.toNat)) := by
  have hn : LwNames [Str.ofString "v", Str.ofString "i"] := trivial
  k_extra "lw_enter"
  obtain ⟨hT, hC, hi⟩ := hpre
  k_steps
  refine end_int (s := s) hret (by k_asm) ?_
  rw [fdiv_pow, fdiv_pow, bitAnd_m1, bitAnd_m1, code_law hC]
theorem zx_law {bs : List Int} (h : Codes bs) : Builtin.bitOr (low bs : Int) (high bs : Int) = (low (bs.map fun b => if b = 2 then 3 else b) : Int) ∧ high bs = high (bs.map fun b => if b = 2 then 3 else b) := by
  have hC : Codes (bs.map fun b => if b = 2 then 3 else b) := by
    intro x hx
    obtain ⟨y, hy, rfl⟩ := List.mem_map.mp hx
    have := h y hy
    split <;> omega
  have e : ∀ i, cd (bs.map fun b => if b = 2 then 3 else b) i = if cd bs i = 2 then 3 else cd bs i := by
    intro i
    unfold cd
    simp only [List.getD_eq_getElem?_getD, List.getElem?_map]
    cases bs[i]? with
    | none => rfl
    | some x => simp
  constructor
  · rw [bitOr_nat]
    congr 1
    refine low_of hC fun i => ?_
    rw [Nat.testBit_or, low_bit h, high_bit h, e]
    have := cd_range h i
    rw [← Bool.decide_or]
    apply decide_eq_decide.mpr
    split <;> omega
  · refine high_of hC fun i => ?_
    rw [high_bit h, e]
    have := cd_range h i
    apply decide_eq_decide.mpr
    split <;> omega
set_option maxHeartbeats 8000000 in
theorem z_to_x_spec (w : World) (v : Addr) (bs : List Int) (tx ty tz : Tok) : Spec w 1 188 [.ref v] (fun h => h.get? v = some (vecObj bs tx ty tz) ∧ Codes bs) (VecIs (bs.map fun b => if b = 2 then 3 else b)) := by
  have hn : LwNames [Str.ofString "v"] := trivial
  k_extra "lw_enter"
  obtain ⟨hT, hC⟩ := hpre
  k_steps
  refine end_tup (s := s) hret (by k_asm) (by k_asm) (by k_mem) (by rw [List.length_map]) ?_ ?_
  · exact (zx_law hC).1
  · rw [(zx_law hC).2]
def truthOf (bs : List Int) : Int := if (1 : Int) ∈ bs then 1 else if (2 : Int) ∈ bs ∨ (3 : Int) ∈ bs then 3 else 0
theorem mem_cd {bs : List Int} {x : Int} (hx : x ≠ 0) : x ∈ bs ↔ ∃ i, cd bs i = x := by
  constructor
  · intro h
    obtain ⟨i, hi, e⟩ := List.getElem_of_mem h
    exact ⟨i, by rw [cd_at hi, e]⟩
  · rintro ⟨i, e⟩
    by_cases hi : i < bs.length
    · rw [cd_at hi] at e; rw [← e]; exact List.getElem_mem hi
    · rw [cd_out (by omega)] at e; exact absurd e.symm hx
theorem truth_one {bs : List Int} (h : Codes bs) : Builtin.bitAnd (low bs : Int) (Builtin.bitXor (high bs : Int) (2 ^ bs.length - 1)) ≠ 0 ↔ (1 : Int) ∈ bs := by
  rw [mask_nat, bitXor_nat, bitAnd_nat, mem_cd (by decide)]
  have e : ∀ i, (low bs &&& (high bs ^^^ (2 ^ bs.length - 1))).testBit i = decide (cd bs i = 1) := by
    intro i
    rw [Nat.testBit_and, Nat.testBit_xor, low_bit h, high_bit h, Nat.testBit_two_pow_sub_one]
    have := cd_range h i
    by_cases hi : i < bs.length
    · have : cd bs i = 0 ∨ cd bs i = 1 ∨ cd bs i = 2 ∨ cd bs i = 3 := by omega
      rcases this with q | q | q | q <;> simp [q, hi]
    · simp [cd_out (Nat.le_of_not_lt hi)]
  constructor
  · intro hne
    have : (low bs &&& (high bs ^^^ (2 ^ bs.length - 1))) ≠ 0 := fun q => hne (by rw [q]; rfl)
    obtain ⟨i, hi⟩ := Nat.exists_testBit_of_ne_zero this
    exact ⟨i, by rw [e] at hi; exact of_decide_eq_true hi⟩
  · rintro ⟨i, hi⟩ q
    have h0 : (low bs &&& (high bs ^^^ (2 ^ bs.length - 1))) = 0 := by omega
    have h1 := e i
    rw [h0, Nat.zero_testBit, hi] at h1
    simp at h1
theorem zero_iff {bs : List Int} (h : Codes bs) : (low bs = 0 ∧ high bs = 0) ↔ ∀ i, cd bs i = 0 := by
  constructor
  · rintro ⟨h1, h2⟩ i
    have a := low_bit h i
    have b := high_bit h i
    rw [h1, Nat.zero_testBit] at a
    rw [h2, Nat.zero_testBit] at b
    have := cd_range h i
    have a' := of_decide_eq_false a.symm
    have b' := of_decide_eq_false b.symm
    omega
  · intro hz
    constructor
    · exact Nat.eq_of_testBit_eq fun i => by rw [low_bit h, hz i]; simp
    · exact Nat.eq_of_testBit_eq fun i => by rw [high_bit h, hz i]; simp
theorem truth_zero {bs : List Int} (h : Codes bs) (h1 : ¬ (1 : Int) ∈ bs) : ((low bs : Int) = 0 ∧ (high bs : Int) = 0) ↔ ¬ ((2 : Int) ∈ bs ∨ (3 : Int) ∈ bs) := by
  have e : ((low bs : Int) = 0 ∧ (high bs : Int) = 0) ↔ (low bs = 0 ∧ high bs = 0) := by omega
  rw [e, zero_iff h, mem_cd (by decide), mem_cd (by decide)]
  rw [mem_cd (by decide)] at h1
  constructor
  · rintro hz (⟨i, hi⟩ | ⟨i, hi⟩) <;> rw [hz i] at hi <;> exact absurd hi (by decide)
  · intro hn i
    have := cd_range h i
    have a : cd bs i ≠ 1 := fun q => h1 ⟨i, q⟩
    have b : cd bs i ≠ 2 := fun q => hn (.inl ⟨i, q⟩)
    have c : cd bs i ≠ 3 := fun q => hn (.inr ⟨i, q⟩)
    omega
set_option maxHeartbeats 8000000 in
theorem truth_spec (w : World) (v : Addr) (bs : List Int) (tx ty tz : Tok) : Spec w 2 195 [.ref v] (fun h => h.get? v = some (vecObj bs tx ty tz) ∧ Codes bs ∧ bs.length ≤ 2000) (IntIs (truthOf bs)) := by
  have hn : LwNames [Str.ofString "v"] := trivial
  k_extra "lw_enter"
  obtain ⟨hT, hC, hi⟩ := hpre
  k_steps
  all_goals (refine end_int (s := s) hret (by k_asm) ?_; simp only [Int.toNat_natCast] at *)
  · rw [truthOf, if_pos ((truth_one hC).mp (by assumption))]
  · have h1 : ¬ (1 : Int) ∈ bs := fun q => (truth_one hC).mpr q (by assumption)
    rw [truthOf, if_neg h1, if_neg ((truth_zero hC h1).mp ⟨by assumption, by assumption⟩)]
  · have h1 : ¬ (1 : Int) ∈ bs := fun q => (truth_one hC).mpr q (by assumption)
    have h2 : (high bs : Int) ≠ 0 := by assumption
    rw [truthOf, if_neg h1, if_pos (Classical.not_not.mp fun q => h2 ((truth_zero hC h1).mpr q).2)]
  · have h1 : ¬ (1 : Int) ∈ bs := fun q => (truth_one hC).mpr q (by assumption)
    have h2 : (low bs : Int) ≠ 0 := by assumption
    rw [truthOf, if_neg h1, if_pos (Classical.not_not.mp fun q => h2 ((truth_zero hC h1).mpr q).1)]
set_option linter.unusedSimpArgs false
theorem cd_range_map (n : Nat) (g : Nat → Int) (j : Nat) : cd ((List.range n).map g) j = if j < n then g j else 0 := by
  by_cases h : j < n
  · rw [cd_at (by simpa using h), if_pos h]; simp
  · rw [cd_out (by simpa using h), if_neg h]
theorem codes_range_map {n : Nat} {g : Nat → Int} (h : ∀ j, j < n → 0 ≤ g j ∧ g j ≤ 3) : Codes ((List.range n).map g) := fun b hb => by
  obtain ⟨j, hj, rfl⟩ := List.mem_map.mp hb
  exact h j (List.mem_range.mp hj)
theorem code_cases {x : Int} (h : 0 ≤ x ∧ x ≤ 3) : x = 0 ∨ x = 1 ∨ x = 2 ∨ x = 3 := by omega

def slc (bs : List Int) (f sh k n : Nat) : List Int := (List.range n).map fun j => if sh ≤ j ∧ j < sh + k then cd bs (f + (j - sh)) else 3
theorem slc_codes {bs : List Int} (h : Codes bs) (f sh k n : Nat) : Codes (slc bs f sh k n) := codes_range_map fun j _ => by
  split
  · exact cd_range h _
  · exact ⟨by decide, by decide⟩
theorem slc_low {bs : List Int} (h : Codes bs) {f sh k n : Nat} (h1 : sh + k ≤ n) : (((low bs >>> f &&& (2 ^ k - 1)) <<< sh) ||| ((2 ^ n - 1) ^^^ ((2 ^ k - 1) <<< sh))) = low (slc bs f sh k n) := by
  refine low_of (slc_codes h f sh k n) fun j => ?_
  rw [slc, cd_range_map]
  simp only [Nat.testBit_or, Nat.testBit_and, Nat.testBit_xor, Nat.testBit_shiftLeft, Nat.testBit_shiftRight, Nat.testBit_two_pow_sub_one, low_bit h]
  by_cases a : sh ≤ j <;> by_cases b : j < sh + k <;> by_cases c : j < n
  · have e : j - sh < k := by omega
    simp [a, b, c, e]
  · omega
  · have e : ¬ j - sh < k := by omega
    simp [a, b, c, e]
  · have e : ¬ j - sh < k := by omega
    simp [a, b, c, e]
  · simp [a, b, c]
  · omega
  · simp [a, b, c]
  · simp [a, b, c]
theorem slc_high {bs : List Int} (h : Codes bs) {f sh k n : Nat} (h1 : sh + k ≤ n) : (((high bs >>> f &&& (2 ^ k - 1)) <<< sh) ||| ((2 ^ n - 1) ^^^ ((2 ^ k - 1) <<< sh))) = high (slc bs f sh k n) := by
  refine high_of (slc_codes h f sh k n) fun j => ?_
  rw [slc, cd_range_map]
  simp only [Nat.testBit_or, Nat.testBit_and, Nat.testBit_xor, Nat.testBit_shiftLeft, Nat.testBit_shiftRight, Nat.testBit_two_pow_sub_one, high_bit h]
  by_cases a : sh ≤ j <;> by_cases b : j < sh + k <;> by_cases c : j < n
  · have e : j - sh < k := by omega
    simp [a, b, c, e]
  · omega
  · have e : ¬ j - sh < k := by omega
    simp [a, b, c, e]
  · have e : ¬ j - sh < k := by omega
    simp [a, b, c, e]
  · simp [a, b, c]
  · omega
  · simp [a, b, c]
  · simp [a, b, c]
/-- the slice as the law says it -/
def slice (bs : List Int) (lo : Int) (n : Nat) : List Int := (List.range n).map fun j : Nat => if 0 ≤ lo + j ∧ lo + j < bs.length then cd bs (lo + j).toNat else 3
theorem slice_len (bs : List Int) (lo : Int) (n : Nat) : (slice bs lo n).length = n := by simp [slice]
theorem slice_none {bs : List Int} {lo : Int} {n : Nat} (h : ∀ j : Nat, j < n → ¬ (0 ≤ lo + j ∧ lo + j < bs.length)) : low (slice bs lo n) = 2 ^ n - 1 ∧ high (slice bs lo n) = 2 ^ n - 1 := by
  have e : slice bs lo n = (List.range n).map fun _ => 3 := List.map_congr_left fun j hj => if_neg (h j (List.mem_range.mp hj))
  have hC : Codes ((List.range n).map fun _ => (3 : Int)) := codes_range_map fun _ _ => ⟨by decide, by decide⟩
  rw [e]
  constructor
  · refine (low_of hC fun j => ?_).symm
    rw [Nat.testBit_two_pow_sub_one, cd_range_map]
    by_cases c : j < n <;> simp [c]
  · refine (high_of hC fun j => ?_).symm
    rw [Nat.testBit_two_pow_sub_one, cd_range_map]
    by_cases c : j < n <;> simp [c]
theorem slice_slc {bs : List Int} {lo : Int} {f sh k n : Nat} (hf : (f : Int) = lo + sh) (h0 : ∀ j : Nat, j < n → ((0 ≤ lo + j ∧ lo + j < bs.length) ↔ (sh ≤ j ∧ j < sh + k))) : slice bs lo n = slc bs f sh k n := by
  refine List.map_congr_left fun j hj => ?_
  have := h0 j (List.mem_range.mp hj)
  by_cases c : sh ≤ j ∧ j < sh + k
  · rw [if_pos c, if_pos (this.mpr c)]
    congr 1; omega
  · rw [if_neg c, if_neg fun q => c (this.mp q)]

def putc (bs cs : List Int) (f sk k : Nat) : List Int := (List.range bs.length).map fun i => if f ≤ i ∧ i < f + k then cd cs (sk + (i - f)) else cd bs i
theorem putc_codes {bs cs : List Int} (h : Codes bs) (hc : Codes cs) (f sk k : Nat) : Codes (putc bs cs f sk k) := codes_range_map fun j _ => by
  split <;> exact cd_range (by assumption) _
theorem putc_low {bs cs : List Int} (h : Codes bs) (hc : Codes cs) {f sk k : Nat} (h1 : f + k ≤ bs.length) : ((low bs &&& ((2 ^ bs.length - 1) ^^^ ((2 ^ k - 1) <<< f))) ||| ((low cs >>> sk &&& (2 ^ k - 1)) <<< f)) = low (putc bs cs f sk k) := by
  refine low_of (putc_codes h hc f sk k) fun j => ?_
  rw [putc, cd_range_map]
  simp only [Nat.testBit_or, Nat.testBit_and, Nat.testBit_xor, Nat.testBit_shiftLeft, Nat.testBit_shiftRight, Nat.testBit_two_pow_sub_one, low_bit h, low_bit hc]
  by_cases a : f ≤ j <;> by_cases b : j < f + k <;> by_cases c : j < bs.length
  · have e : j - f < k := by omega
    simp [a, b, c, e]
  · omega
  · have e : ¬ j - f < k := by omega
    simp [a, b, c, e]
  · have e : ¬ j - f < k := by omega
    simp [a, b, c, e]
  · simp [a, b, c]
  · omega
  · simp [a, b, c]
  · simp [a, b, c]
theorem putc_high {bs cs : List Int} (h : Codes bs) (hc : Codes cs) {f sk k : Nat} (h1 : f + k ≤ bs.length) : ((high bs &&& ((2 ^ bs.length - 1) ^^^ ((2 ^ k - 1) <<< f))) ||| ((high cs >>> sk &&& (2 ^ k - 1)) <<< f)) = high (putc bs cs f sk k) := by
  refine high_of (putc_codes h hc f sk k) fun j => ?_
  rw [putc, cd_range_map]
  simp only [Nat.testBit_or, Nat.testBit_and, Nat.testBit_xor, Nat.testBit_shiftLeft, Nat.testBit_shiftRight, Nat.testBit_two_pow_sub_one, high_bit h, high_bit hc]
  by_cases a : f ≤ j <;> by_cases b : j < f + k <;> by_cases c : j < bs.length
  · have e : j - f < k := by omega
    simp [a, b, c, e]
  · omega
  · have e : ¬ j - f < k := by omega
    simp [a, b, c, e]
  · have e : ¬ j - f < k := by omega
    simp [a, b, c, e]
  · simp [a, b, c]
  · omega
  · simp [a, b, c]
  · simp [a, b, c]
/-- a row put in, as the law says it -/
def put (bs cs : List Int) (lo : Int) : List Int := (List.range bs.length).map fun i : Nat => if 0 ≤ (i : Int) - lo ∧ (i : Int) - lo < cs.length then cd cs ((i : Int) - lo).toNat else cd bs i
theorem put_len (bs cs : List Int) (lo : Int) : (put bs cs lo).length = bs.length := by simp [put]
theorem put_none {bs cs : List Int} {lo : Int} (h : ∀ i : Nat, i < bs.length → ¬ (0 ≤ (i : Int) - lo ∧ (i : Int) - lo < cs.length)) : put bs cs lo = bs :=
  (List.map_congr_left fun i hi => if_neg (h i (List.mem_range.mp hi))).trans (range_cd bs)
theorem put_putc {bs cs : List Int} {lo : Int} {f sk k : Nat} (hf : (f : Int) = lo + sk) (h0 : ∀ i : Nat, i < bs.length → ((0 ≤ (i : Int) - lo ∧ (i : Int) - lo < cs.length) ↔ (f ≤ i ∧ i < f + k))) : put bs cs lo = putc bs cs f sk k := by
  refine List.map_congr_left fun i hi => ?_
  have := h0 i (List.mem_range.mp hi)
  by_cases c : f ≤ i ∧ i < f + k
  · rw [if_pos c, if_pos (this.mpr c)]
    congr 1; omega
  · rw [if_neg c, if_neg fun q => c (this.mp q)]
/-- a row cut or extended by a code -/
def ext (bs : List Int) (n : Nat) (c : Int) : List Int := (List.range n).map fun i => if i < bs.length then cd bs i else c
theorem ext_len (bs : List Int) (n : Nat) (c : Int) : (ext bs n c).length = n := by simp [ext]
theorem ext_codes {bs : List Int} (h : Codes bs) (n : Nat) {c : Int} (hc : 0 ≤ c ∧ c ≤ 3) : Codes (ext bs n c) := codes_range_map fun j _ => by
  split
  · exact cd_range h _
  · exact hc
theorem ext_cut {bs : List Int} (h : Codes bs) {n : Nat} (hn : n ≤ bs.length) {c : Int} (hc : 0 ≤ c ∧ c ≤ 3) : low bs % 2 ^ n = low (ext bs n c) ∧ high bs % 2 ^ n = high (ext bs n c) := by
  constructor
  · refine low_of (ext_codes h n hc) fun i => ?_
    rw [Nat.testBit_mod_two_pow, low_bit h, ext, cd_range_map]
    by_cases a : i < n
    · have : i < bs.length := by omega
      simp [a, this]
    · simp [a]
  · refine high_of (ext_codes h n hc) fun i => ?_
    rw [Nat.testBit_mod_two_pow, high_bit h, ext, cd_range_map]
    by_cases a : i < n
    · have : i < bs.length := by omega
      simp [a, this]
    · simp [a]
theorem ext_low {bs : List Int} (h : Codes bs) {n : Nat} (hn : bs.length ≤ n) {c : Int} (hc : 0 ≤ c ∧ c ≤ 3) :
    (c % 2 = 1 → low bs ||| ((2 ^ n - 1) ^^^ (2 ^ bs.length - 1)) = low (ext bs n c)) ∧ (c % 2 ≠ 1 → low bs = low (ext bs n c)) := by
  constructor
  · intro h1
    refine low_of (ext_codes h n hc) fun i => ?_
    rw [Nat.testBit_or, Nat.testBit_xor, Nat.testBit_two_pow_sub_one, Nat.testBit_two_pow_sub_one, low_bit h, ext, cd_range_map]
    by_cases a : i < n <;> by_cases b : i < bs.length
    · simp [a, b]
    · simp [a, b, h1]
    · omega
    · simp [a, b, cd_out (Nat.le_of_not_lt b)]
  · intro h1
    refine low_of (ext_codes h n hc) fun i => ?_
    rw [low_bit h, ext, cd_range_map]
    by_cases a : i < n <;> by_cases b : i < bs.length
    · simp [a, b]
    · simp [a, b, h1, cd_out (Nat.le_of_not_lt b)]
    · omega
    · simp [a, b, cd_out (Nat.le_of_not_lt b)]
theorem ext_high {bs : List Int} (h : Codes bs) {n : Nat} (hn : bs.length ≤ n) {c : Int} (hc : 0 ≤ c ∧ c ≤ 3) :
    (c / 2 = 1 → high bs ||| ((2 ^ n - 1) ^^^ (2 ^ bs.length - 1)) = high (ext bs n c)) ∧ (c / 2 ≠ 1 → high bs = high (ext bs n c)) := by
  constructor
  · intro h1
    refine high_of (ext_codes h n hc) fun i => ?_
    rw [Nat.testBit_or, Nat.testBit_xor, Nat.testBit_two_pow_sub_one, Nat.testBit_two_pow_sub_one, high_bit h, ext, cd_range_map]
    by_cases a : i < n <;> by_cases b : i < bs.length
    · simp [a, b]
    · simp [a, b, h1]
    · omega
    · simp [a, b, cd_out (Nat.le_of_not_lt b)]
  · intro h1
    refine high_of (ext_codes h n hc) fun i => ?_
    rw [high_bit h, ext, cd_range_map]
    by_cases a : i < n <;> by_cases b : i < bs.length
    · simp [a, b]
    · simp [a, b, h1, cd_out (Nat.le_of_not_lt b)]
    · omega
    · simp [a, b, cd_out (Nat.le_of_not_lt b)]
theorem and_one (c : Int) (hc : 0 ≤ c ∧ c ≤ 3) : (Builtin.bitAnd c 1 ≠ 0 ↔ c % 2 = 1) ∧ (Builtin.bitAnd c 2 ≠ 0 ↔ c / 2 = 1) := by
  have e : Builtin.bitAnd c 2 = (c / 2 ^ 1 % 2) * 2 ^ 1 := kbt_bit c 1
  rw [bitAnd_m1, e]
  omega
theorem bitOr_zero (x : Nat) : Builtin.bitOr (x : Int) 0 = (x : Int) := by
  have := bitOr_nat x 0
  simpa using this
theorem isList_get {h : Heap} {a : Addr} {its : Array Value} {n : Nat} (e : h.get? a = some (W.listOf its n)) : h.IsList a its.toList.toArray := ⟨_, e, rfl, _, rfl⟩
theorem codes_fold (bs : List Int) : List.foldl (fun a' (k' : Int) => a' ++ [cd bs k'.toNat]) [] (rangeKs 0 ((bs.length : Int) - 0).toNat) = bs := by
  rw [foldl_push (fun k : Int => cd bs k.toNat)]
  have e : ((bs.length : Int) - 0).toNat = bs.length := by omega
  rw [e, List.nil_append, rangeKs, List.map_map]
  refine Eq.trans (List.map_congr_left fun i _ => ?_) (range_cd bs)
  simp
theorem fc_fold {bs : List Int} (h : Codes bs) : ∀ n, n ≤ bs.length → (rangeInts 0 1 n).foldl (fun (σ : Int × Int × Unit) (k : Int) => (Builtin.bitOr σ.1 ((bs.getD k.toNat 0).fdiv (2 ^ Int.toNat 1) * 2 ^ k.toNat), Builtin.bitOr σ.2.1 (Builtin.bitAnd (bs.getD k.toNat 0) 1 * 2 ^ k.toNat), ())) (0, 0, ()) = ((high (bs.take n) : Int), (low (bs.take n) : Int), ())
  | 0, _ => by simp [rangeInts, low, high]
  | n + 1, hn => by
    rw [PyProof.Rows.rangeInts_snoc, List.foldl_append, fc_fold h n (by omega)]
    have hl : (bs.take n).length = n := by rw [List.length_take]; omega
    have e : bs.getD n 0 = cd bs n := rfl
    have hc := cd_range h n
    have e2 : (bs.getD n 0).fdiv (2 ^ Int.toNat 1) = cd bs n / 2 := fdiv_pow _ 1
    have h1 := (high_snoc (cd bs n) (codes_take h n) hc.1).1
    have h2 := (low_snoc (cd bs n) (codes_take h n)).1
    rw [← take_snoc (by omega), hl] at h1 h2
    have z : ((0 : Int) + (n : Int) * 1).toNat = n := by omega
    simp only [List.foldl_cons, List.foldl_nil, z]
    rw [e2, bitAnd_m1, e, ← h1, ← h2]
theorem fc_fold' {bs : List Int} (h : Codes bs) : (rangeInts 0 1 ((bs.length : Int) - 0).toNat).foldl (fun (σ : Int × Int × Unit) (k : Int) => (Builtin.bitOr σ.1 ((bs.getD k.toNat 0).fdiv (2 ^ Int.toNat 1) * 2 ^ k.toNat), Builtin.bitOr σ.2.1 (Builtin.bitAnd (bs.getD k.toNat 0) 1 * 2 ^ k.toNat), ())) (0, 0, ()) = ((high bs : Int), (low bs : Int), ()) := by
  have e : ((bs.length : Int) - 0).toNat = bs.length := by omega
  rw [e, fc_fold h _ (Nat.le_refl _), List.take_length]
theorem intBits_small {x : Int} (h0 : 0 ≤ x) (h1 : x ≤ 3) : (Builtin.Int.intBits x : Int) ≤ 2 := by
  have : Builtin.Int.intBits x ≤ 2 := intBits_le_iff.mpr (by omega)
  omega
theorem getD_range {bs : List Int} (h : Codes bs) (i : Nat) : 0 ≤ bs.getD i 0 ∧ bs.getD i 0 ≤ 3 := cd_range h i
theorem shl_a {bs : List Int} {j : Nat} {k : Int} (h : Codes bs) (hk : k ≤ 4000) : (Builtin.Int.intBits (Builtin.bitAnd (bs.getD j 0) 1) : Int) + k ≤ 2 ^ 27 := by
  have := getD_range h j
  have := intBits_small (x := Builtin.bitAnd (bs.getD j 0) 1) (by rw [bitAnd_m1]; omega) (by rw [bitAnd_m1]; omega)
  omega
theorem shl_b {bs : List Int} {j : Nat} {k : Int} (h : Codes bs) (hk : k ≤ 4000) : (Builtin.Int.intBits ((bs.getD j 0).fdiv (2 ^ Int.toNat 1)) : Int) + k ≤ 2 ^ 27 := by
  have := getD_range h j
  have e : (bs.getD j 0).fdiv (2 ^ Int.toNat 1) = bs.getD j 0 / 2 := fdiv_pow _ 1
  have := intBits_small (x := (bs.getD j 0).fdiv (2 ^ Int.toNat 1)) (by rw [e]; omega) (by rw [e]; omega)
  omega
set_option maxHeartbeats 1000000 in
theorem codes_spec (w : World) (v : Addr) (bs : List Int) (tx ty tz : Tok) : Spec w 2 125 [.ref v] (fun h => h.get? v = some (vecObj bs tx ty tz) ∧ Codes bs ∧ bs.length ≤ 2000) (ListIs bs) := by
  have hn : LwNames [Str.ofString "v"] := trivial
  k_extra "lw_enter"
  obtain ⟨hT, hC, hl⟩ := hpre
  k_steps
  refine end_list (s := s) hret (by k_asm) (by k_asm) (by k_mem) (by assumption) ?_
  exact codes_fold bs
set_option maxHeartbeats 1000000 in
theorem from_codes_spec (w : World) (r : Addr) (vs : List Value) (bs : List Int) : Spec w 2 132 [.ref r] (fun h => h.IsList r vs.toArray ∧ IntsAre vs bs ∧ Codes bs ∧ bs.length ≤ 2000) (VecIs bs) := by
  have hn : LwNames [Str.ofString "row"] := trivial
  k_extra "lw_enter"
  obtain ⟨hL, hI, hC, hl⟩ := hpre
  k_steps
  refine end_tup (s := s) hret (by k_asm) (by k_asm) (by k_mem) rfl ?_ ?_
  · exact congrArg (fun x : Int × Int × Unit => x.2.1) (fc_fold' hC)
  · exact congrArg (fun x : Int × Int × Unit => x.1) (fc_fold' hC)
theorem bits_mask {k : Nat} (hk : k ≤ 4000) : (Builtin.Int.intBits ((2 : Int) ^ k - 1) : Int) ≤ 4000 := by
  have h0 := pow2_pos k
  have : Builtin.Int.intBits ((2 : Int) ^ k - 1) ≤ k := intBits_le_iff.mpr (by have := cast_pow2 k; omega)
  omega
theorem shl_mask {k : Nat} {n : Int} (hk : k ≤ 4000) (hn : n ≤ 4000) : (Builtin.Int.intBits ((2 : Int) ^ k - 1) : Int) + n ≤ 2 ^ 27 := by
  have := bits_mask hk
  omega
theorem shl_and {x : Int} {k : Nat} {n : Int} (hk : k ≤ 4000) (hn : n ≤ 4000) : (Builtin.Int.intBits (Builtin.bitAnd x (2 ^ k - 1)) : Int) + n ≤ 2 ^ 27 := by
  have h0 := pow2_pos k
  have h1 := Int.emod_nonneg x (b := 2 ^ k) (by omega)
  have h2 := Int.emod_lt_of_pos x h0
  have h3 := cast_pow2 k
  have : Builtin.Int.intBits (Builtin.bitAnd x (2 ^ k - 1)) ≤ k := intBits_le_iff.mpr (by rw [kbt_mask]; omega)
  omega
theorem slice_end {bs : List Int} (hC : Codes bs) {lo n F Z : Int} (hF : F = if 0 > lo then 0 else lo) (hZ : Z = if (bs.length : Int) < lo + n then (bs.length : Int) else lo + n) (hn : 1 ≤ n) (hlt : ¬ Z ≤ F) :
    Builtin.bitOr (Builtin.bitAnd ((low bs : Int).fdiv (2 ^ F.toNat)) (2 ^ (Z - F).toNat - 1) * 2 ^ (F - lo).toNat) (Builtin.bitXor (2 ^ n.toNat - 1) ((2 ^ (Z - F).toNat - 1) * 2 ^ (F - lo).toNat)) = (low (slice bs lo n.toNat) : Int) ∧
    Builtin.bitOr (Builtin.bitAnd ((high bs : Int).fdiv (2 ^ F.toNat)) (2 ^ (Z - F).toNat - 1) * 2 ^ (F - lo).toNat) (Builtin.bitXor (2 ^ n.toNat - 1) ((2 ^ (Z - F).toNat - 1) * 2 ^ (F - lo).toNat)) = (high (slice bs lo n.toNat) : Int) := by
  have e : slice bs lo n.toNat = slc bs F.toNat (F - lo).toNat (Z - F).toNat n.toNat := slice_slc (by split at hF <;> omega) fun j hj => by split at hF <;> split at hZ <;> omega
  have h1 : (F - lo).toNat + (Z - F).toNat ≤ n.toNat := by split at hF <;> split at hZ <;> omega
  rw [e]
  simp only [mask_nat, shr_nat, bitAnd_nat, shl_nat, bitXor_nat, bitOr_nat]
  rw [slc_low hC h1, slc_high hC h1]
  exact ⟨rfl, rfl⟩
theorem slice_end0 {bs : List Int} {lo n : Int} (hn : 1 ≤ n) (h : (if (bs.length : Int) < lo + n then (bs.length : Int) else lo + n) ≤ if 0 > lo then 0 else lo) :
    (2 : Int) ^ n.toNat - 1 = (low (slice bs lo n.toNat) : Int) ∧ (2 : Int) ^ n.toNat - 1 = (high (slice bs lo n.toNat) : Int) := by
  have e := slice_none (bs := bs) (lo := lo) (n := n.toNat) fun j hj => by split at h <;> split at h <;> omega
  rw [e.1, e.2, mask_nat]; exact ⟨rfl, rfl⟩
theorem put_end {bs cs : List Int} (hC : Codes bs) (hD : Codes cs) {lo F Z : Int} (hF : F = if 0 > lo then 0 else lo) (hZ : Z = if (bs.length : Int) < lo + cs.length then (bs.length : Int) else lo + cs.length) (hlt : ¬ Z ≤ F) :
    Builtin.bitOr (Builtin.bitAnd (low bs : Int) (Builtin.bitXor (2 ^ bs.length - 1) ((2 ^ (Z - F).toNat - 1) * 2 ^ F.toNat))) (Builtin.bitAnd ((low cs : Int).fdiv (2 ^ (F - lo).toNat)) (2 ^ (Z - F).toNat - 1) * 2 ^ F.toNat) = (low (put bs cs lo) : Int) ∧
    Builtin.bitOr (Builtin.bitAnd (high bs : Int) (Builtin.bitXor (2 ^ bs.length - 1) ((2 ^ (Z - F).toNat - 1) * 2 ^ F.toNat))) (Builtin.bitAnd ((high cs : Int).fdiv (2 ^ (F - lo).toNat)) (2 ^ (Z - F).toNat - 1) * 2 ^ F.toNat) = (high (put bs cs lo) : Int) := by
  have e : put bs cs lo = putc bs cs F.toNat (F - lo).toNat (Z - F).toNat := put_putc (by split at hF <;> omega) fun j hj => by split at hF <;> split at hZ <;> omega
  have h1 : F.toNat + (Z - F).toNat ≤ bs.length := by split at hF <;> split at hZ <;> omega
  rw [e]
  simp only [mask_nat, shr_nat, bitAnd_nat, shl_nat, bitXor_nat, bitOr_nat]
  rw [putc_low hC hD h1, putc_high hC hD h1]
  exact ⟨rfl, rfl⟩
theorem put_end0 {bs cs : List Int} {lo : Int} (h : (if (bs.length : Int) < lo + cs.length then (bs.length : Int) else lo + cs.length) ≤ if 0 > lo then 0 else lo) : put bs cs lo = bs :=
  put_none fun j hj => by split at h <;> split at h <;> omega
set_option maxHeartbeats 1000000 in
theorem slice_spec (w : World) (v : Addr) (bs : List Int) (tx ty tz : Tok) (lo n : Int) (tl tn : Tok) : Spec w 3 139 [.ref v, .int lo tl, .int n tn] (fun h => h.get? v = some (vecObj bs tx ty tz) ∧ Codes bs ∧ bs.length ≤ 2000 ∧ -1000 ≤ lo ∧ lo ≤ 1000 ∧ 1 ≤ n ∧ n ≤ 1000) (VecIs (slice bs lo n.toNat)) := by
  have hn : LwNames [Str.ofString "v", Str.ofString "lo", Str.ofString "w"] := trivial
  k_extra "lw_enter"
  obtain ⟨hT, hC, hl, h1, h2, h3, h4⟩ := hpre
  k_steps
  · have e := slice_end0 (bs := bs) h3 (by assumption)
    exact end_tup (s := s) hret (by k_asm) (by k_asm) (by k_mem) (by rw [slice_len]; omega) e.1 e.2
  · have e := slice_end hC rfl rfl h3 (by assumption)
    exact end_tup (s := s) hret (by k_asm) (by k_asm) (by k_mem) (by rw [slice_len]; omega) e.1 e.2
theorem end_any {h : Heap} {L : Addr} {m : Str → Option Value} {s : Shared} {Q : Value → Shared → Prop} {tk' : Nat} {post : Heap → Heap → Value → Prop} {v : Value} (hret : ∀ v h' tk', s.heap.StaysIn h' → post s.heap h' v → Q v { s with heap := h', toks := tk' }) (F : Fr s.heap L h m) (e : post s.heap h v) : LwRet Q (.ret v) { s with heap := h, toks := tk' } :=
  hret _ _ _ F.keep e
theorem tup_is {x y z x' y' z' : Int} {tx ty tz : Tok} {r L : Addr} {h₀ h : Heap} {news : List (Addr × Obj)} (N : News h₀ L h news) (hm : (r, tupObj (t3 x' y' z' tx ty tz)) ∈ news) (ex : x' = x) (ey : y' = y) (ez : z' = z) : TupIs x y z h₀ h (.ref r) :=
  ⟨r, tx, ty, tz, rfl, (N _ hm).2.2, by rw [← ex, ← ey, ← ez]; exact (N _ hm).1⟩
theorem ext_end {bs : List Int} (h : Codes bs) {n : Int} (hn : ¬ n ≤ bs.length) {c : Int} (hc : 0 ≤ c ∧ c ≤ 3) :
    (Builtin.bitAnd c 1 ≠ 0 → Builtin.bitOr (low bs : Int) (Builtin.bitXor (2 ^ n.toNat - 1) (2 ^ bs.length - 1)) = (low (ext bs n.toNat c) : Int)) ∧ (Builtin.bitAnd c 1 = 0 → Builtin.bitOr (low bs : Int) 0 = (low (ext bs n.toNat c) : Int)) ∧
    (Builtin.bitAnd c 2 ≠ 0 → Builtin.bitOr (high bs : Int) (Builtin.bitXor (2 ^ n.toNat - 1) (2 ^ bs.length - 1)) = (high (ext bs n.toNat c) : Int)) ∧ (Builtin.bitAnd c 2 = 0 → Builtin.bitOr (high bs : Int) 0 = (high (ext bs n.toNat c) : Int)) := by
  have hn' : bs.length ≤ n.toNat := by omega
  have a := and_one c hc
  have b := ext_low h hn' hc
  have d := ext_high h hn' hc
  simp only [mask_nat, bitXor_nat, bitOr_nat, bitOr_zero]
  refine ⟨fun q => by rw [b.1 (a.1.mp q)], fun q => ?_, fun q => by rw [d.1 (a.2.mp q)], fun q => ?_⟩
  · rw [← b.2 fun z => (a.1.mpr z) q]
  · rw [← d.2 fun z => (a.2.mpr z) q]
theorem ext_end0 {bs : List Int} (h : Codes bs) {n : Int} (hn : ¬ n ≤ bs.length) : (low bs : Int) = (low (ext bs n.toNat 0) : Int) ∧ (high bs : Int) = (high (ext bs n.toNat 0) : Int) := by
  have hn' : bs.length ≤ n.toNat := by omega
  rw [← (ext_low h hn' (c := 0) ⟨by decide, by decide⟩).2 (by decide), ← (ext_high h hn' (c := 0) ⟨by decide, by decide⟩).2 (by decide)]
  exact ⟨rfl, rfl⟩
theorem ext_end1 {bs : List Int} (h : Codes bs) {n : Int} (h1 : 1 ≤ n) (hn : n ≤ bs.length) {c : Int} (hc : 0 ≤ c ∧ c ≤ 3) : (low bs : Int) % 2 ^ n.toNat = (low (ext bs n.toNat c) : Int) ∧ (high bs : Int) % 2 ^ n.toNat = (high (ext bs n.toNat c) : Int) := by
  have := ext_cut h (n := n.toNat) (by omega) hc
  rw [← this.1, ← this.2, cast_pow2]; exact ⟨rfl, rfl⟩
def lastc (bs : List Int) (sg : Bool) : Int := if sg = true then cd bs ((bs.length : Int) - 1).toNat else 0
theorem lastc_range {bs : List Int} (h : Codes bs) (sg : Bool) : 0 ≤ lastc bs sg ∧ lastc bs sg ≤ 3 := by
  unfold lastc; split
  · exact cd_range h _
  · exact ⟨by decide, by decide⟩
set_option maxHeartbeats 1000000 in
theorem put_spec (w : World) (v : Addr) (bs : List Int) (tx ty tz : Tok) (lo : Int) (tl : Tok) (u : Addr) (cs : List Int) (ux uy uz : Tok) : Spec w 3 146 [.ref v, .int lo tl, .ref u] (fun h => h.get? v = some (vecObj bs tx ty tz) ∧ h.get? u = some (vecObj cs ux uy uz) ∧ Codes bs ∧ Codes cs ∧ bs.length ≤ 1000 ∧ cs.length ≤ 1000 ∧ -1000 ≤ lo ∧ lo ≤ 1000) (fun h h' r => VecIs (put bs cs lo) h h' r ∨ (r = .ref v ∧ put bs cs lo = bs)) := by
  have hn : LwNames [Str.ofString "v", Str.ofString "lo", Str.ofString "part"] := trivial
  k_extra "lw_enter"
  obtain ⟨hT, hU, hC, hD, hl, hm, h1, h2⟩ := hpre
  k_steps
  · exact hret _ _ _ (Fr.keep (by assumption)) (Or.inr ⟨rfl, put_end0 (by assumption)⟩)
  · have e := put_end hC hD rfl rfl (by assumption)
    exact hret _ _ _ (Fr.keep (by assumption)) (Or.inl (tup_is (by assumption) (by k_mem) (by rw [put_len]) e.1 e.2))
def toInt (n x : Int) (sg : Bool) : Int := if sg = true ∧ x.fdiv (2 ^ (n - 1).toNat) = 1 then x - 2 ^ n.toNat else x
set_option maxHeartbeats 1000000 in
theorem to_int_spec (w : World) (v : Addr) (n x z : Int) (tx ty tz : Tok) (sg : Bool) : Spec w 2 111 [.ref v, .bool sg] (fun h => h.get? v = some (tupObj (t3 n x z tx ty tz)) ∧ 1 ≤ n ∧ n ≤ 1000) (fun _ _ r => (z ≠ 0 ∧ r = .none) ∨ (z = 0 ∧ ∃ t, r = .int (toInt n x sg) t)) := by
  have hn : LwNames [Str.ofString "v", Str.ofString "signed"] := trivial
  k_extra "lw_enter"
  obtain ⟨hT, h1, h2⟩ := hpre
  k_steps
  · exact hret _ _ _ (Fr.keep (by assumption)) (Or.inl ⟨by assumption, rfl⟩)
  · exact hret _ _ _ (Fr.keep (by assumption)) (Or.inr ⟨by assumption, _, by rw [toInt, if_pos ⟨by assumption, by assumption⟩, Int.one_mul]⟩)
  · exact hret _ _ _ (Fr.keep (by assumption)) (Or.inr ⟨by assumption, _, by rw [toInt, if_neg fun q => absurd q.2 (by assumption)]⟩)
  · exact hret _ _ _ (Fr.keep (by assumption)) (Or.inr ⟨by assumption, _, by have hf : sg = false := (by assumption); rw [toInt, if_neg fun q => absurd (q.1.symm.trans hf) (by decide)]⟩)
set_option maxHeartbeats 1000000 in
theorem extend_spec (w : World) (v : Addr) (bs : List Int) (tx ty tz : Tok) (n : Int) (tn : Tok) (sg : Bool) : Spec w 3 167 [.ref v, .int n tn, .bool sg] (fun h => h.get? v = some (vecObj bs tx ty tz) ∧ Codes bs ∧ bs.length ≤ 1000 ∧ 1 ≤ bs.length ∧ 1 ≤ n ∧ n ≤ 1000) (VecIs (ext bs n.toNat (lastc bs sg))) := by
  have hn : LwNames [Str.ofString "v", Str.ofString "w", Str.ofString "signed"] := trivial
  k_extra "lw_enter"
  obtain ⟨hT, hC, hl, h1, h2, h3⟩ := hpre
  have hlen : n = ((ext bs n.toNat (lastc bs sg)).length : Int) := by rw [ext_len]; omega
  have hc := lastc_range hC sg
  have hsg : sg = true → lastc bs sg = cd bs ((bs.length : Int) - 1).toNat := fun q => if_pos q
  have hsf : sg = false → lastc bs sg = 0 := fun q => if_neg (by rw [q]; decide)
  k_steps
  · exact end_tup (s := s) hret (by k_asm) (by k_asm) (by k_mem) hlen (ext_end1 hC h2 (by assumption) hc).1 (ext_end1 hC h2 (by assumption) hc).2
  · have e := ext_end hC (by assumption) (hsg (by assumption) ▸ hc); rw [← hsg (by assumption)] at e
    exact end_tup (s := s) hret (by k_asm) (by k_asm) (by k_mem) hlen (e.1 (by rw [hsg (by assumption)]; assumption)) (e.2.2.1 (by rw [hsg (by assumption)]; assumption))
  · have e := ext_end hC (by assumption) (hsg (by assumption) ▸ hc); rw [← hsg (by assumption)] at e
    exact end_tup (s := s) hret (by k_asm) (by k_asm) (by k_mem) hlen (e.1 (by rw [hsg (by assumption)]; assumption)) (e.2.2.2 (by rw [hsg (by assumption)]; assumption))
  · have e := ext_end hC (by assumption) (hsg (by assumption) ▸ hc); rw [← hsg (by assumption)] at e
    exact end_tup (s := s) hret (by k_asm) (by k_asm) (by k_mem) hlen (e.2.1 (by rw [hsg (by assumption)]; assumption)) (e.2.2.1 (by rw [hsg (by assumption)]; assumption))
  · have e := ext_end hC (by assumption) (hsg (by assumption) ▸ hc); rw [← hsg (by assumption)] at e
    exact end_tup (s := s) hret (by k_asm) (by k_asm) (by k_mem) hlen (e.2.1 (by rw [hsg (by assumption)]; assumption)) (e.2.2.2 (by rw [hsg (by assumption)]; assumption))
  · have e := ext_end0 hC (by assumption)
    exact end_tup (s := s) hret (by k_asm) (by k_asm) (by k_mem) hlen (by rw [hsf (by assumption)]; exact e.1) (by rw [hsf (by assumption)]; exact e.2)
def VecAt (h : Heap) (a : Addr) (bs : List Int) : Prop := (∃ tx ty tz, h.get? a = some (vecObj bs tx ty tz)) ∧ Codes bs ∧ bs.length ≤ 100
/-- rows joined, the first the most significant -/
def joined : List (List Int) → List Int
  | [] => []
  | b :: r => joined r ++ b
theorem joined_snoc (b : List Int) : ∀ r : List (List Int), joined (r ++ [b]) = b ++ joined r
  | [] => by simp [joined]
  | x :: r => by rw [List.cons_append, joined, joined_snoc b r, joined, List.append_assoc]
theorem joined_ok {l : List (List Int)} (h : ∀ b ∈ l, Codes b ∧ b.length ≤ 100) : Codes (joined l) ∧ (joined l).length ≤ 100 * l.length := by
  induction l with
  | nil => exact ⟨(fun _ h => nomatch h), Nat.zero_le _⟩
  | cons b r ih =>
    have h1 := h b (.head _)
    have h2 := ih fun x hx => h x (.tail _ hx)
    refine ⟨codes_append h2.1 h1.1, ?_⟩
    rw [joined, List.length_append, List.length_cons]; omega
theorem join_low {xs ys : List Int} (h : Codes ys) : Builtin.bitOr ((low xs : Int) * 2 ^ ys.length) (low ys : Int) = (low (ys ++ xs) : Int) := by
  rw [shl_nat, bitOr_nat, low_append, ← Nat.shiftLeft_add_eq_or_of_lt (low_lt ys h), Nat.shiftLeft_eq, Nat.mul_comm, Nat.add_comm]
theorem join_high {xs ys : List Int} (h : Codes ys) : Builtin.bitOr ((high xs : Int) * 2 ^ ys.length) (high ys : Int) = (high (ys ++ xs) : Int) := by
  rw [shl_nat, bitOr_nat, high_append, ← Nat.shiftLeft_add_eq_or_of_lt (high_lt ys h), Nat.shiftLeft_eq, Nat.mul_comm, Nat.add_comm]
theorem bits_nat {x k : Nat} (h : x < 2 ^ k) : (Builtin.Int.intBits (x : Int) : Int) ≤ k := by
  have : Builtin.Int.intBits (x : Int) ≤ k := intBits_le_iff.mpr (by simpa using h)
  omega
theorem shl_low {bs : List Int} {n : Int} (h : Codes bs) (hl : bs.length ≤ 100000) (hn : n ≤ 4000) : (Builtin.Int.intBits (low bs : Int) : Int) + n ≤ 2 ^ 27 := by
  have := bits_nat (low_lt bs h); omega
theorem shl_high {bs : List Int} {n : Int} (h : Codes bs) (hl : bs.length ≤ 100000) (hn : n ≤ 4000) : (Builtin.Int.intBits (high bs : Int) : Int) + n ≤ 2 ^ 27 := by
  have := bits_nat (high_lt bs h); omega
theorem upd3 {x a b c z : Str} {A B C A' B' C' A2 B2 C2 V R : Option Value} (hz : z ≠ x) (hA : A = A2) (hB : B = B2) (hC : C = C2) :
    (if z = a then A else if z = b then B else if z = c then C else if z = x then V else if z = a then A' else if z = b then B' else if z = c then C' else R) = (if z = a then A2 else if z = b then B2 else if z = c then C2 else R) := by
  subst hA hB hC
  by_cases h1 : z = a
  · simp only [if_pos h1]
  · by_cases h2 : z = b
    · simp only [if_neg h1, if_pos h2]
    · by_cases h3 : z = c
      · simp only [if_neg h1, if_neg h2, if_pos h3]
      · simp only [if_neg h1, if_neg h2, if_neg h3, if_neg hz]
abbrev catD := List Int × Tok × Tok × Tok
abbrev catUpd (m : Str → Option Value) (d : catD) : Str → Option Value := fun y => if y = Str.ofString "b" then some (.int (high d.1 : Int) d.2.2.2) else if y = Str.ofString "a" then some (.int (low d.1 : Int) d.2.2.1) else if y = Str.ofString "w" then some (.int (d.1.length : Int) d.2.1) else m y
set_option maxHeartbeats 8000000 in
theorem concat_spec (w : World) (l : Addr) (vs : List (Addr × List Int)) : Spec w 2 153 [.ref l] (fun h => h.IsList l (vs.map fun p => Value.ref p.1).toArray ∧ (∀ p ∈ vs, VecAt h p.1 p.2) ∧ vs.length ≤ 8) (VecIs (joined (vs.map (·.2)))) := by
  have hn : LwNames [Str.ofString "vs"] := trivial
  have hlo : LwLoop := trivial
  k_extra "lw_enter"
  obtain ⟨hL, hV, hl⟩ := hpre
  k_steps
  refine lw_go ?_
  clear hl9
  refine' lw_list (D := catD) (catUpd _) (fun _ => []) (fun i d => d.1 = joined ((vs.take i).map (·.2))) ([], _, _, _) rfl hL (by assumption) (by assumption) (fun z hz => rfl) (fun _ => rfl) rfl ?turn ?done
  case turn =>
    rintro i v ⟨ds, d1, d2, d3⟩ h tk own hi hd hoff F1 N1
    dsimp only at hd
    rw [List.getElem?_map] at hi
    obtain ⟨p, hp, rfl⟩ := Option.map_eq_some_iff.mp hi
    obtain ⟨⟨px, py, pz, hT⟩, hC, hpl⟩ := hV p (List.mem_of_getElem? hp)
    have hj : joined ((vs.take (i + 1)).map (·.2)) = p.2 ++ ds := by
      rw [List.take_add_one, hp, List.map_append, hd]; exact joined_snoc p.2 _
    have hD := joined_ok (l := (vs.take i).map (·.2)) (by
      intro b hb
      obtain ⟨q, hq, rfl⟩ := List.mem_map.mp hb
      have := hV q (List.mem_of_mem_take hq)
      exact ⟨this.2.1, this.2.2⟩)
    rw [← hd] at hD
    obtain ⟨hD, hDl⟩ := hD
    have hDl : ds.length ≤ 100000 := by simp only [List.length_map, List.length_take] at hDl; omega
    try k_fold
    k_steps
    have e1 := join_low (xs := ds) hC
    have e2 := join_high (xs := ds) hC
    refine' turn_next (D := catD) (p.2 ++ ds, _, _, _) (by assumption) (by assumption) (fun z hz => upd3 hz (congrArg (fun z => some (Value.int z _)) ?e2) (congrArg (fun z => some (Value.int z _)) ?e1) (congrArg (fun z => some (Value.int z _)) ?e3)) (fun q hq => nomatch hq) (fun q hq => hq) hj.symm
    case e2 => exact e2
    case e1 => exact e1
    case e3 => show (ds.length : Int) + (p.2.length : Int) = ((p.2 ++ ds).length : Int); rw [List.length_append]; omega
  case done =>
    rintro ⟨ds, d1, d2, d3⟩ u h tk hd F1 N1
    dsimp only at hd
    rw [List.length_map, List.take_length] at hd
    subst hd
    try k_unfold
    k_steps
    exact end_tup (s := s) hret (by k_asm) (by k_asm) (by k_mem) rfl rfl rfl
/-- a list of small numbers -/
def RowOk (o : Obj) : Prop := ∃ us n ns, o = W.listOf (List.toArray us) n ∧ IntsAre us ns ∧ (∀ x ∈ ns, 0 ≤ x ∧ x < 1024) ∧ us.length ≤ 1000
def StaysBut (r : Addr) (h h' : Heap) : Prop := ∀ b o, b ≠ r → h.get? b = some o → h'.get? b = some o
/-- the call of a def that changes one list of the caller's -/
theorem call_GR {prog : Program} {w : World} {A₀ A : Around} {s : Shared} {base h₀ : Heap} {outer : List Env} {L : Addr} {m : Str → Option Value} {env : Env} {K : Frag} {mg mb : Str → Option Value} {p : Program} {loose : List Str} {mean : ExcName → Option Value}
    {Q E : Value → Shared → Prop} {name qual : Str} {params : Arguments} {body : List Stmt} {scope : Scope} {dV kV doc pm cdv ct oc : Value} {an od : Option Addr} {osl : Array (Option Value)} {f : Addr} {args : List Value} {names : List Str} {r : Addr} {ro : Obj}
    (hn : LwNames names) (B : Below A₀ base outer h₀) (F : Fr h₀ L s.heap m) (N : News h₀ L s.heap [(r, ro)]) (X₀ : K.In h₀) (T : Top p loose mean mg mb h₀) (hA : A.frames = some (env :: outer)) (hf : env.frame = some L) (hke : env.scope.kind = .function)
    (ho : K.lookup f = some ⟨oc, od, .func (fnOf name qual params body scope dV kV doc pm an cdv ct), osl⟩) (hcd : codeIn K cdv qual = true) (hroom : A.depth < recursionLimit)
    (hbind : BindsTo s (fnOf name qual params body scope dV kV doc pm an cdv ct) ⟨args, []⟩ (names.zip args)) (hloc : ∀ y ∈ names.zip args, scope.names.lookup y.1 = some .local)
    (h : ∀ g L' h₁ tk₁, (∀ h', g.StaysIn h' → StaysBut r s.heap h') → Fr g L' h₁ (fun y => (names.zip args).reverse.lookup y) → News g L' h₁ [(r, ro)] → Below A base (env :: outer) g → K.In g → Top p loose mean mg mb g →
      wpAny (model prog w) (A.deeper (envOf qual scope L' f cdv)) (execs body (envOf qual scope L' f cdv))
        (LwRet Q)
        (fun e s' => wpAny (model prog w) (A.deeper (envOf qual scope L' f cdv)) (leaving (envOf qual scope L' f cdv) e) (fun _ s'' => E e s'') (fun e' s'' => E e' s'') s')
        { s with heap := h₁, toks := tk₁ })
    (hco : scope.isCoroutine = false) (hgen : scope.isGenerator = false) (hk : scope.kind = .function)
    (hcell : ∀ x ∈ scope.names, x.2 ≠ .cell) : wpAny (model prog w) A (call (.ref f) args) Q E s := by
  refine wpAny_call ?_
  obtain ⟨FG, BG, st, lv⟩ := groundX (R := fun r s' => match r with | .ok (.ret v) => Q v s' | .ok _ => False | .error e => E e s') B F N hA hf hke
  refine codeAny_call_def (fd := fnOf name qual params body scope dV kV doc pm an cdv ct) (body := body) (binds := names.zip args) hroom ((X₀.keeps F.keep) _ _ ho) rfl (T.nolimit.keeps F.keep) (codeRec_of (X₀.keeps F.keep) hcd) rfl hbind hcell hloc (fun h₁ hns hk₁ => ?_) hco hgen hk
  refine h _ s.heap.objs.size h₁ _ (fun h' k b o hb e => k b o (hideAll_get _ e (by simpa using hb))) ⟨hns, fun b o e => hk₁ b o (of_hideAll _ e), Nat.le_of_eq (hideAll_size _ _)⟩
    (fun p hp => ⟨hk₁ _ _ (N p hp).1, Nat.ne_of_lt (Heap.lt_size (N p hp).1), hideAll_none _ (List.mem_map_of_mem hp)⟩) BG (X₀.keeps st) (T.keeps st)
/-- what a def of the text does that changes the list at r -/
abbrev SpecR (w : World) (need : Nat) (f : Addr) (r : Addr) (vs : List Value) (pre : Heap → Prop) (post : Heap → Heap → Value → Prop) : Prop :=
  ∀ (dp un : Nat) (gd : Option (List Code)) (cn : Str) (cs : Scope) (a : Addr) (ccd : Value) (cl : List (Str × Addr)) (outer : List Env) (A₀ : Around) (base h₀ : Heap) (L : Addr) (m : Str → Option Value) (loose : List Str) (mean : ExcName → Option Value) (mg mb : Str → Option Value) (s : Shared) (Q E : Value → Shared → Prop) (ro : Obj),
    Below A₀ base outer h₀ → Fr h₀ L s.heap m → News h₀ L s.heap [(r, ro)] → RowOk ro → (hd.heap_39 w.params).In h₀ → Top hd.view_39 loose mean mg mb h₀ → cs.kind = .function → dp + need < recursionLimit → un + 8 * need < cLine → pre s.heap →
    (∀ v h' tk' ro', StaysBut r s.heap h' → h'.get? r = some ro' → RowOk ro' → post s.heap h' v → Q v { s with heap := h', toks := tk' }) →
    wpAny (model PySem.Challenge.rw_nn0303_01.row.prog w) (ktrTop dp un gd cn cs L a ccd cl outer) (call (.ref f) vs) Q E s

section
variable {w : World} {need : Nat} {f r : Addr} {vs : List Value} {pre : Heap → Prop} {post : Heap → Heap → Value → Prop} {dp un : Nat} {gd : Option (List Code)} {cn : Str} {cs : Scope} {a : Addr} {ccd : Value} {cl : List (Str × Addr)} {outer : List Env} {A₀ : Around} {base h₀ : Heap} {L : Addr} {m : Str → Option Value} {news : List (Addr × Obj)} {loose : List Str} {mean : ExcName → Option Value} {mg mb : Str → Option Value} {s : Shared} {Q E : Value → Shared → Prop} {ro : Obj} {g : Obj → List (Addr × Obj)}
theorem Fr.but {h h' : Heap} (F : Fr h₀ L h m) (k : StaysBut r h h') (hL : L ≠ r) (h0 : h₀.get? r = none) : Fr h₀ L h' m := by
  obtain ⟨oL, a1, a2, hoL, a3⟩ := F.ns
  refine ⟨⟨oL, a1, a2, k L oL hL hoL, a3⟩, fun b o e => k b o (fun q => ?_) (F.keep b o e), F.above⟩
  rw [q, h0] at e; cases e
theorem use_row (C : SpecR w need f r vs pre post) (B : Below A₀ base outer h₀) (F : Fr h₀ L s.heap m) (X : (hd.heap_39 w.params).In h₀) (N : News h₀ L s.heap news) (U : UpdF r ro news g) (hro : RowOk ro) (T : Top hd.view_39 loose mean mg mb h₀) (hk : cs.kind = .function) (hdp : dp + need < recursionLimit) (hu : un + 8 * need < cLine) (hp : pre s.heap)
    (ret : ∀ v h' tk' ro', Fr h₀ L h' m → News h₀ L h' (g ro') → RowOk ro' → (∀ p ∈ g ro', s.heap.get? p.1 ≠ none) → post s.heap h' v → Q v { s with heap := h', toks := tk' }) :
    wpAny (model PySem.Challenge.rw_nn0303_01.row.prog w) (ktrTop dp un gd cn cs L a ccd cl outer) (call (.ref f) vs) Q E s := by
  obtain ⟨own, rest, rfl, hg, h1, h2⟩ := U.split
  have hm : (r, ro) ∈ own ++ (r, ro) :: rest := List.mem_append_right _ (.head _)
  refine C _ _ _ _ _ _ _ _ _ _ _ _ _ _ _ _ _ _ _ _ _ _ B F (fun p hp => by cases hp with | head => exact N _ hm | tail _ h => cases h) hro X T hk hdp hu hp fun v h' tk' ro' k e ok q => ?_
  have hr := N _ hm
  refine ret v h' tk' ro' (Fr.but F k (fun q => hr.2.1 q.symm) hr.2.2) (fun p hp => ?_) ok (fun p hp => ?_) q
  · rw [hg] at hp
    rcases List.mem_append.mp hp with hp | hp
    · have := N p (List.mem_append_left _ hp)
      exact ⟨k _ _ (h1 p hp) this.1, this.2⟩
    · rcases List.mem_cons.mp hp with rfl | hp
      · exact ⟨e, hr.2⟩
      · have := N p (List.mem_append_right _ (.tail _ hp))
        exact ⟨k _ _ (h2 p hp) this.1, this.2⟩
  · rw [hg] at hp
    rcases List.mem_append.mp hp with hp | hp
    · rw [(N p (List.mem_append_left _ hp)).1]; exact Option.some_ne_none _
    · rcases List.mem_cons.mp hp with rfl | hp
      · dsimp only; rw [hr.1]; exact Option.some_ne_none _
      · rw [(N p (List.mem_append_right _ (.tail _ hp))).1]; exact Option.some_ne_none _
end
set_option maxHeartbeats 1000000 in
theorem next_spec (w : World) (r : Addr) : SpecR w 20 209 r [.ref r] (fun _ => True) (fun _ _ v => ∃ x t, v = .int x t ∧ 0 ≤ x ∧ x < 1024) := by
  have hn : LwNames [Str.ofString "row"] := trivial
  k_extra "lw_enterR"
  have hz := IntsAre.length hIR
  k_steps
  · refine hret _ _ _ _ (hkeep _ (Fr.keep (by assumption))) (News.get (by assumption) (by k_mem)) ⟨usR, nR, nsR, rfl, hIR, hrR, hlR⟩ ⟨0, _, rfl, by decide, by decide⟩
  · have hne : nsR ≠ [] := by simpa using (show decide (nsR = []) = false by assumption)
    have h0 : 0 < usR.length := by
      cases nsR with
      | nil => exact absurd rfl hne
      | cons x r => rw [List.length_cons] at hz; omega
    k_steps
    refine hret _ _ _ _ (hkeep _ (Fr.keep (by assumption))) (News.get (by assumption) (by k_mem)) ⟨usR.dropLast, nR + 1, nsR.dropLast, rfl, by assumption, fun x hx => hrR x (List.dropLast_subset nsR hx), by rw [List.length_dropLast]; omega⟩ ⟨_, _, rfl, ?_⟩
    rw [List.getLastD_eq_getLast?, List.getLast?_eq_some_getLast hne]
    exact hrR _ (List.getLast_mem hne)
theorem bits_small {x : Int} (h : 0 ≤ x ∧ x ≤ 3) : Builtin.Int.intBits x ≤ 64 := by
  have := intBits_small h.1 h.2; omega
theorem mulb_a {bs : List Int} {j : Nat} (h : Codes bs) : Builtin.Int.intBits ((bs.getD j 0).fmod 2) ≤ 64 := by
  have := cd_range h j
  rw [Int.fmod_eq_emod_of_nonneg _ (by decide)]
  exact bits_small (by omega)
theorem mulb_b {bs : List Int} {j : Nat} (h : Codes bs) : Builtin.Int.intBits ((bs.getD j 0).fdiv 2) ≤ 64 := by
  have := getD_range h j
  rw [Int.fdiv_eq_ediv_of_nonneg _ (by decide)]
  exact bits_small (by omega)
theorem mulb_c {bs : List Int} {j : Nat} (h : Codes bs) : Builtin.Int.intBits (bs.getD j 0) ≤ 64 := bits_small (getD_range h j)
theorem made_fold {bs : List Int} (h : Codes bs) : ∀ n, n ≤ bs.length → (rangeInts 0 1 n).foldl (fun (σ : Int × Int × Unit) (k : Int) => (σ.1 + (bs.getD k.toNat 0).fdiv 2 * 2 ^ k.toNat, σ.2.1 + (bs.getD k.toNat 0).fmod 2 * 2 ^ k.toNat, ())) (0, 0, ()) = ((high (bs.take n) : Int), (low (bs.take n) : Int), ())
  | 0, _ => by simp [rangeInts, low, high]
  | n + 1, hn => by
    rw [PyProof.Rows.rangeInts_snoc, List.foldl_append, made_fold h n (by omega)]
    have hl : (bs.take n).length = n := by rw [List.length_take]; omega
    have e : bs.getD n 0 = cd bs n := rfl
    have hc := cd_range h n
    have h1 := (high_snoc (cd bs n) (codes_take h n) hc.1).2
    have h2 := (low_snoc (cd bs n) (codes_take h n)).2
    rw [← take_snoc (by omega), hl] at h1 h2
    have z : ((0 : Int) + (n : Int) * 1).toNat = n := by omega
    simp only [List.foldl_cons, List.foldl_nil, z]
    rw [Int.fdiv_eq_ediv_of_nonneg _ (by decide), Int.fmod_eq_emod_of_nonneg _ (by decide), e, ← h1, ← h2]
theorem made_fold' {bs : List Int} (h : Codes bs) : (rangeInts 0 1 ((bs.length : Int) - 0).toNat).foldl (fun (σ : Int × Int × Unit) (k : Int) => (σ.1 + (bs.getD k.toNat 0).fdiv 2 * 2 ^ k.toNat, σ.2.1 + (bs.getD k.toNat 0).fmod 2 * 2 ^ k.toNat, ())) (0, 0, ()) = ((high bs : Int), (low bs : Int), ()) := by
  have e : ((bs.length : Int) - 0).toNat = bs.length := by omega
  rw [e, made_fold h _ (Nat.le_refl _), List.take_length]
theorem any_mem {bs : List Int} {k : Int} : (bs.any fun x => x == k) = true ↔ k ∈ bs := by
  rw [List.any_eq_true]
  exact ⟨fun ⟨x, hx, e⟩ => (eq_of_beq e) ▸ hx, fun h => ⟨k, h, beq_self_eq_true k⟩⟩
theorem any_not {bs : List Int} {k : Int} : (bs.any fun x => x == k) = false ↔ ¬ k ∈ bs := by
  rw [← any_mem]; exact (Bool.not_eq_true _).to_iff.symm
theorem high_zero {bs : List Int} (h : Codes bs) : high bs = 0 ↔ ¬ (2 : Int) ∈ bs ∧ ¬ (3 : Int) ∈ bs := by
  induction bs with
  | nil => simp [high]
  | cons b r ih =>
    obtain ⟨hb, hr⟩ := codes_cons h
    have := ih hr
    rw [high, List.mem_cons, List.mem_cons]
    constructor
    · intro q
      have q1 : (b / 2).toNat = 0 := by omega
      have q2 := this.mp (by omega)
      exact ⟨fun z => z.elim (by omega) q2.1, fun z => z.elim (by omega) q2.2⟩
    · rintro ⟨q1, q2⟩
      have := this.mpr ⟨fun z => q1 (.inr z), fun z => q2 (.inr z)⟩
      have n1 : ¬ 2 = b := fun z => q1 (.inl z)
      have n2 : ¬ 3 = b := fun z => q2 (.inl z)
      omega
theorem high_not {bs : List Int} (h : Codes bs) {k : Int} (hk : k = 2 ∨ k = 3) (a : (bs.any fun x => x == k) = true) : (high bs : Int) ≠ 0 := fun q => by
  have := (high_zero h).mp (by omega)
  rcases hk with rfl | rfl
  · exact this.1 (any_mem.mp a)
  · exact this.2 (any_mem.mp a)
theorem plain_codes {bs : List Int} (h : Codes bs) (a : (bs.any fun x => x == 2) = false) (b : (bs.any fun x => x == 3) = false) : (∀ i, cd bs i = 0 ∨ cd bs i = 1) ∧ (high bs : Int) = 0 := by
  have a' := any_not.mp a
  have b' := any_not.mp b
  refine ⟨fun i => ?_, by have := (high_zero h).mpr ⟨a', b'⟩; omega⟩
  have := cd_range h i
  have n2 : cd bs i ≠ 2 := fun z => a' ((mem_cd (by decide)).mpr ⟨i, z⟩)
  have n3 : cd bs i ≠ 3 := fun z => b' ((mem_cd (by decide)).mpr ⟨i, z⟩)
  omega
theorem num_fold {bs : List Int} (h : Codes bs) (hp : ∀ i, cd bs i = 0 ∨ cd bs i = 1) : ∀ n, n ≤ bs.length → (rangeInts 0 1 n).foldl (fun (σ : Int × Unit) (k : Int) => (σ.1 + bs.getD k.toNat 0 * 2 ^ k.toNat, ())) (0, ()) = ((low (bs.take n) : Int), ())
  | 0, _ => by simp [rangeInts, low]
  | n + 1, hn => by
    rw [PyProof.Rows.rangeInts_snoc, List.foldl_append, num_fold h hp n (by omega)]
    have hl : (bs.take n).length = n := by rw [List.length_take]; omega
    have e : bs.getD n 0 = cd bs n := rfl
    have hc : cd bs n % 2 = cd bs n := by have := hp n; omega
    have h2 := (low_snoc (cd bs n) (codes_take h n)).2
    rw [← take_snoc (by omega), hl, hc] at h2
    have z : ((0 : Int) + (n : Int) * 1).toNat = n := by omega
    simp only [List.foldl_cons, List.foldl_nil, z]
    rw [e, ← h2]
theorem num_fold' {bs : List Int} (h : Codes bs) (hp : ∀ i, cd bs i = 0 ∨ cd bs i = 1) : ((rangeInts 0 1 ((bs.length : Int) - 0).toNat).foldl (fun (σ : Int × Unit) (k : Int) => (σ.1 + bs.getD k.toNat 0 * 2 ^ k.toNat, ())) (0, ())).1 = (low bs : Int) := by
  have e : ((bs.length : Int) - 0).toNat = bs.length := by omega
  rw [e, num_fold h hp _ (Nat.le_refl _), List.take_length]
theorem num_last {bs : List Int} (h : Codes bs) (h1 : 1 ≤ bs.length) : (low bs : Int).fdiv (2 ^ ((bs.length : Int) - 1).toNat) = 1 ↔ cd bs (bs.length - 1) % 2 = 1 := by
  have e : ((bs.length : Int) - 1).toNat = bs.length - 1 := by omega
  have hb := bit_int (low bs) (bs.length - 1)
  have hl := low_lt bs h
  have hp : 2 ^ bs.length = 2 * 2 ^ (bs.length - 1) := by
    rw [Nat.mul_comm, ← Nat.pow_succ]; congr 1; omega
  have hd : low bs / 2 ^ (bs.length - 1) < 2 := Nat.div_lt_of_lt_mul (by rw [Nat.mul_comm]; omega)
  have hc : ((low bs : Int) / 2 ^ (bs.length - 1)) = ((low bs / 2 ^ (bs.length - 1) : Nat) : Int) := by push_cast; rfl
  rw [e, fdiv_pow]
  rw [low_bit h, hc] at hb
  rw [hc]
  have h2 : ((low bs / 2 ^ (bs.length - 1) : Nat) : Int) % 2 = ((low bs / 2 ^ (bs.length - 1) : Nat) : Int) := by
    clear hb hc hl hp
    generalize low bs / 2 ^ (bs.length - 1) = z at *
    omega
  rw [h2] at hb
  rw [hb]
  by_cases q : cd bs (bs.length - 1) % 2 = 1 <;> simp [q]
theorem num_neg {bs : List Int} (h : Codes bs) (h1 : 1 ≤ bs.length) (a : bs.getD (-1 + (bs.length : Int)).toNat 0 = 1) : (low bs : Int).fdiv (2 ^ ((bs.length : Int) - 1).toNat) = 1 := by
  have e : (-1 + (bs.length : Int)).toNat = bs.length - 1 := by omega
  rw [e] at a
  exact (num_last h h1).mpr (by show bs.getD _ 0 % 2 = 1; rw [a]; rfl)
theorem num_pos {bs : List Int} (h : Codes bs) (h1 : 1 ≤ bs.length) (hp : ∀ i, cd bs i = 0 ∨ cd bs i = 1) (a : bs.getD (-1 + (bs.length : Int)).toNat 0 ≠ 1) : ¬ (low bs : Int).fdiv (2 ^ ((bs.length : Int) - 1).toNat) = 1 := by
  have e : (-1 + (bs.length : Int)).toNat = bs.length - 1 := by omega
  rw [e] at a
  rw [num_last h h1]
  have := hp (bs.length - 1)
  have a' : cd bs (bs.length - 1) ≠ 1 := a
  omega
theorem made_pre {h : Heap} {r : Addr} {vs : List Value} {bs : List Int} (h1 : h.IsList r vs.toArray) (h2 : IntsAre vs bs) (h3 : Codes bs) (h4 : bs.length ≤ 2000) : h.IsList r vs.toArray ∧ IntsAre vs bs ∧ Codes bs ∧ bs.length ≤ 2000 := ⟨h1, h2, h3, h4⟩
set_option maxHeartbeats 1000000 in
theorem made_spec (w : World) (r : Addr) (vs : List Value) (bs : List Int) : Spec w 2 223 [.ref r] (fun h => h.IsList r vs.toArray ∧ IntsAre vs bs ∧ Codes bs ∧ bs.length ≤ 2000) (VecIs bs) := by
  have hn : LwNames [Str.ofString "bits"] := trivial
  k_extra "lw_enter"
  obtain ⟨hL, hI, hC, hl⟩ := hpre
  k_steps
  refine end_tup (s := s) hret (by k_asm) (by k_asm) (by k_mem) rfl ?_ ?_
  · exact congrArg (fun x : Int × Int × Unit => x.2.1) (made_fold' hC)
  · exact congrArg (fun x : Int × Int × Unit => x.1) (made_fold' hC)
set_option maxHeartbeats 1000000 in
theorem number_spec (w : World) (r : Addr) (vs : List Value) (bs : List Int) (sg : Bool) : Spec w 2 230 [.ref r, .bool sg] (fun h => h.IsList r vs.toArray ∧ IntsAre vs bs ∧ Codes bs ∧ bs.length ≤ 2000 ∧ 1 ≤ bs.length) (fun _ _ v => ((high bs : Int) ≠ 0 ∧ v = .none) ∨ ((high bs : Int) = 0 ∧ ∃ t, v = .int (toInt bs.length (low bs) sg) t)) := by
  have hn : LwNames [Str.ofString "bits", Str.ofString "signed"] := trivial
  k_extra "lw_enter"
  obtain ⟨hL, hI, hC, hl, h1⟩ := hpre
  k_steps
  · exact hret _ _ _ (Fr.keep (by assumption)) (Or.inl ⟨high_not hC (.inl rfl) (by assumption), rfl⟩)
  · exact hret _ _ _ (Fr.keep (by assumption)) (Or.inl ⟨high_not hC (.inr rfl) (by assumption), rfl⟩)
  · have hp := plain_codes hC (by assumption) (by assumption)
    exact hret _ _ _ (Fr.keep (by assumption)) (Or.inr ⟨hp.2, _, by rw [toInt, if_pos ⟨by assumption, num_neg hC h1 (by assumption)⟩]; exact congrArg (fun x => Value.int (x - _) _) (num_fold' hC hp.1)⟩)
  · have hp := plain_codes hC (by assumption) (by assumption)
    exact hret _ _ _ (Fr.keep (by assumption)) (Or.inr ⟨hp.2, _, by rw [toInt, if_neg fun q => absurd q.2 (num_pos hC h1 hp.1 (by assumption))]; exact congrArg (fun x => Value.int x _) (num_fold' hC hp.1)⟩)
  · have hp := plain_codes hC (by assumption) (by assumption)
    have hf : sg = false := by assumption
    exact hret _ _ _ (Fr.keep (by assumption)) (Or.inr ⟨hp.2, _, by rw [toInt, if_neg fun q => absurd (q.1.symm.trans hf) (by decide)]; exact congrArg (fun x => Value.int x _) (num_fold' hC hp.1)⟩)
theorem rep_vs {v : Addr} {bs : List Int} (n : Nat) : ((List.replicate n (v, bs)).map fun p => Value.ref p.1).toArray = List.foldl (fun x1 x2 => x1 ++ x2) #[] (List.replicate (if #[Value.ref v].isEmpty = true then 0 else n) #[Value.ref v]) := by
  have key : ∀ (n : Nat) (acc : Array Value), List.foldl (fun x1 x2 => x1 ++ x2) acc (List.replicate n #[Value.ref v]) = acc ++ (List.replicate n (Value.ref v)).toArray := by
    intro n
    induction n with
    | zero => intro acc; simp
    | succ n ih => intro acc; rw [List.replicate_succ, List.foldl_cons, ih, List.replicate_succ]; apply Array.toList_inj.mp; simp
  have e : (#[Value.ref v].isEmpty = true) = False := by simp
  simp only [e, if_false]
  rw [key, List.map_replicate]; simp
abbrev bitD := List Value × Nat × List Int × Obj × Option Value × Option Value
abbrev bitUpd (m : Str → Option Value) (d : bitD) : Str → Option Value := fun y => if y = Str.ofString "number" then d.2.2.2.2.1 else if y = Str.ofString "step" then d.2.2.2.2.2 else m y
theorem upd2_start {m : Str → Option Value} {x a b : Str} (ha : m a = none) (hb : m b = none) : ∀ z, z ≠ x → m z = if z = a then none else if z = b then none else m z := fun z _ => by
  by_cases h1 : z = a
  · rw [if_pos h1, h1, ha]
  · by_cases h2 : z = b
    · rw [if_neg h1, if_pos h2, h2, hb]
    · rw [if_neg h1, if_neg h2]
abbrev innD := List Value × Nat × List Int × Int × Tok
abbrev innUpd (m : Str → Option Value) (d : innD) : Str → Option Value := fun y => if y = Str.ofString "number" then some (.int d.2.2.2.1 d.2.2.2.2) else m y
theorem upd_in {x a b z : Str} {u : Str → Option Value} {A V A0 B0 R : Option Value} (hz : z ≠ x) (hab : b ≠ a) : (if z = b then u z else if z = a then A else if z = x then V else if z = a then A0 else if z = b then B0 else R) = if z = a then A else if z = b then u b else R := by
  by_cases h2 : z = b
  · have h1 : z ≠ a := fun q => hab (h2.symm.trans q)
    rw [if_pos h2, if_neg h1, if_pos h2, h2]
  · by_cases h1 : z = a
    · rw [if_neg h2, if_pos h1, if_pos h1]
    · rw [if_neg h2, if_neg h1, if_neg hz, if_neg h1, if_neg h2, if_neg h1, if_neg h2]
theorem upd_one {x a z : Str} {A V A0 R : Option Value} (hz : z ≠ x) : (if z = a then A else if z = x then V else if z = a then A0 else R) = if z = a then A else R := by
  by_cases h1 : z = a
  · rw [if_pos h1, if_pos h1]
  · rw [if_neg h1, if_neg hz, if_neg h1, if_neg h1]
theorem ints_snoc {x : Int} {t : Tok} : ∀ {us : List Value} {ds : List Int}, IntsAre us ds → IntsAre (us ++ [.int x t]) (ds ++ [x])
  | _, _, .nil => .cons _ _ .nil
  | _, _, .cons n t r => .cons n t (ints_snoc r)
theorem codes_snoc {ds : List Int} {x : Int} (h : Codes ds) (hx : 0 ≤ x ∧ x ≤ 3) : Codes (ds ++ [x]) := codes_append h fun b hb => by rw [List.mem_singleton.mp hb]; exact hx
theorem fmod4 (x : Int) : 0 ≤ x.fmod 4 ∧ x.fmod 4 ≤ 3 := by rw [Int.fmod_eq_emod_of_nonneg _ (by decide)]; omega
theorem off_app {own own' rest : List (Addr × Obj)} {a b : Addr} {o o' : Obj} (h : OwnOff own [a, b]) (h' : OwnOff own' (((a, o) :: (b, o') :: rest).map (·.1))) : OwnOff (own ++ own') [a, b] := fun p hp c hc => by
  rcases List.mem_append.mp hp with hp | hp
  · exact h p hp c hc
  · refine h' p hp c ?_
    rcases List.mem_cons.mp hc with rfl | hc
    · exact .head _
    · rw [List.mem_singleton.mp hc]; exact .tail _ (.head _)
theorem led_in {a r : Addr} {o o' ro : Obj} {own own' : List (Addr × Obj)} (e : o = o') : ∀ p ∈ (a, o) :: (r, ro) :: own, p ∈ (a, o') :: (r, ro) :: (own ++ own') := fun p hp => by
  subst e
  rcases List.mem_cons.mp hp with rfl | hp
  · exact .head _
  · rcases List.mem_cons.mp hp with rfl | hp
    · exact .tail _ (.head _)
    · exact .tail _ (.tail _ (List.mem_append_left _ hp))
theorem own_in {p q : Addr × Obj} {own own' : List (Addr × Obj)} : ∀ x ∈ own', x ∈ p :: q :: (own ++ own') := fun _ hx => .tail _ (.tail _ (List.mem_append_right _ hx))
theorem two_in {p q : Addr × Obj} {own : List (Addr × Obj)} : ∀ x ∈ [p, q], x ∈ p :: q :: own := fun x hx => by
  rcases List.mem_cons.mp hx with rfl | hx
  · exact .head _
  · rw [List.mem_singleton.mp hx]; exact .tail _ (.head _)
theorem fresh_but {h g h' : Heap} {r L D : Addr} {o : Obj} {news : List (Addr × Obj)} (k : ∀ h', g.StaysIn h' → StaysBut r h h') (N : News g L h' ((D, o) :: news)) (hD : @LT.lt Nat _ r D) : h.get? D = none := by
  cases q : h.get? D with
  | none => rfl
  | some x =>
    have := k g (fun _ _ e => e) D x (fun z => Nat.lt_irrefl _ (z ▸ hD)) q
    rw [(N _ (.head _)).2.2] at this; cases this
theorem bits_n {n : Int} (h1 : 1 ≤ n) (h2 : n ≤ 100) : Builtin.Range.small 0 ((n + 4).fdiv 5) 1 = true ∧ Builtin.Range.rangeSize 0 ((n + 4).fdiv 5) 1 = ((((n + 4) / 5).toNat : Nat) : Int) := by
  rw [Int.fdiv_eq_ediv_of_nonneg _ (by decide)]
  refine ⟨small_one (by decide) (by decide) (by omega) (by omega), ?_⟩
  rw [rangeSize_nat]; congr 2; omega
set_option maxHeartbeats 1000000 in
theorem repeat_spec (w : World) (v : Addr) (bs : List Int) (tx ty tz : Tok) (n : Int) (tn : Tok) : Spec w 4 160 [.ref v, .int n tn] (fun h => h.get? v = some (vecObj bs tx ty tz) ∧ Codes bs ∧ bs.length ≤ 100 ∧ 1 ≤ n ∧ n ≤ 8) (VecIs (joined (List.replicate n.toNat bs))) := by
  have hn : LwNames [Str.ofString "v", Str.ofString "n"] := trivial
  k_extra "lw_enter"
  obtain ⟨hT, hC, hl, h1, h2⟩ := hpre
  k_steps
  rename News s.heap _ _ (_ :: _ :: []) => N9
  have hv := rep_vs (v := v) (bs := bs) n.toNat
  refine' use_tup (concat_spec _ _ (List.replicate n.toNat (v, bs))) (by k_asm) (by k_asm) (by k_asm) (by k_asm) (by k_asm) (by first | exact rfl | assumption) (by ktr_room) (by ktr_units) ?_ ?_
  · refine ⟨?_, ?_, ?_⟩
    · rw [hv]; exact News.isList N9 (List.mem_cons_self ..)
    · intro p hp
      rw [(List.mem_replicate.mp hp).2]
      exact ⟨⟨_, _, _, by k_extra "lw_tup"⟩, hC, hl⟩
    · rw [List.length_replicate]; omega
  · intro r9 tx9 ty9 tz9 h9 tk9 F9 N9 l9
    rw [List.map_replicate] at N9
    k_steps
    exact end_tup (s := s) hret (by k_asm) (by k_asm) (List.mem_cons_self ..) rfl rfl rfl
set_option maxHeartbeats 1000000 in
theorem bits_spec (w : World) (r : Addr) (n : Int) (tn : Tok) : SpecR w 30 216 r [.ref r, .int n tn] (fun _ => 1 ≤ n ∧ n ≤ 100) (fun h h' v => ∃ bs, Codes bs ∧ (bs.length : Int) = n ∧ ListIs bs h h' v) := by
  have hn : LwNames [Str.ofString "row", Str.ofString "wide"] := trivial
  have hlo : LwLoop := trivial
  k_extra "lw_enterR"
  have hok : RowOk (W.listOf usR.toArray nR) := ⟨usR, nR, nsR, rfl, hIR, hrR, hlR⟩
  clear hIR hrR hlR
  generalize W.listOf usR.toArray nR = ro at *
  k_steps
  refine lw_go ?_
  have hb := bits_n hpre.1 hpre.2
  refine' lw_range (D := bitD) (n := ((n + 4) / 5).toNat) (bitUpd _) (fun d => [(_, W.listOf d.1.toArray d.2.1), (r, d.2.2.2.1)]) (fun i d => IntsAre d.1 d.2.2.1 ∧ Codes d.2.2.1 ∧ d.2.2.1.length = 5 * i ∧ RowOk d.2.2.2.1) ([], 0, [], ro, none, none) rfl (by assumption) hb.1 hb.2 (by assumption) (by assumption) (upd2_start (by exact rfl) (by exact rfl)) (fun _ => rfl) ⟨.nil, (fun _ h => nomatch h), rfl, hok⟩ ?turn ?done
  case turn =>
    rintro i t ⟨ds, dn, di, dr, d1, d2⟩ h tk own hi ⟨hI, hC, hl, hok1⟩ hoff F1 N1
    dsimp only at hI hC hl hok1
    dsimp only [List.map] at hoff
    dsimp only [List.cons_append, List.nil_append] at N1
    try k_fold
    k_steps
    refine lw_go ?_
    clear hl9
    refine' lw_range (D := innD) (n := 5) (innUpd _) (fun d => (_, W.listOf d.1.toArray d.2.1) :: (r, _) :: own) (fun j d => IntsAre d.1 d.2.2.1 ∧ Codes d.2.2.1 ∧ d.2.2.1.length = 5 * i + j) (ds, dn, di, _, _) rfl (by assumption) (by decide) (by decide) (by assumption) (by assumption) (fun z hz => rfl) (fun _ => rfl) ⟨hI, hC, hl⟩ ?turn2 ?done2
    case turn2 =>
      rintro j t2 ⟨es, en, ei, ex, et⟩ h2 tk2 own2 hj ⟨hI2, hC2, hl2⟩ hoff2 F2 N2
      dsimp only at hI2 hC2 hl2
      replace hoff2 := off_app hoff hoff2
      dsimp only [List.cons_append] at N2
      have hlen := IntsAre.length hI2
      try k_fold
      k_steps
      refine' turn_next (D := innD) (es ++ [_], en + 1, ei ++ [_], _, _) (by assumption) (by assumption) (fun z hz => upd_one (a := Str.ofString "number") hz) (led_in (congrArg (fun x => W.listOf x _) (List.push_toArray _ _).symm)) own_in ⟨ints_snoc hI2, codes_snoc hC2 (fmod4 _), ?_⟩
      show (ei ++ [_]).length = _
      rw [List.length_append, hl2]; rfl
    case done2 =>
      rintro ⟨es, en, ei, ex, et⟩ u h2 tk2 ⟨hI2, hC2, hl2⟩ F2 N2
      dsimp only at hI2 hC2 hl2 N2
      try k_unfold
      k_steps
      exact turn_next (D := bitD) (es, en, ei, _, _, _) (by assumption) (by assumption) (fun z hz => upd_in (a := Str.ofString "number") (b := Str.ofString "step") hz (by decide)) two_in (fun p hp => .tail _ (.tail _ hp)) ⟨hI2, hC2, hl2, ok9⟩
  case done =>
    rintro ⟨ds, dn, di, dr, d1, d2⟩ u h tk ⟨hI, hC, hl, hok1⟩ F1 N1
    dsimp only at hI hC hl hok1 N1
    try k_unfold
    k_steps
    have hlen : ((di.take n.toNat).length : Int) = n := by rw [List.length_take]; omega
    rename News g' _ _ (_ :: _ :: _ :: []) => N9
    have hD := fresh_but hkeep N9 (by omega)
    exact hret _ _ _ _ (hkeep _ (Fr.keep (by assumption))) (News.get (by assumption) (by k_mem)) hok1 ⟨_, codes_take hC _, hlen, _, _, _, rfl, hD, News.get (by assumption) (by k_mem), by assumption⟩
section
variable {prog : Program} {w : World} {A : Around} {E : Value → Shared → Prop} {s : Shared} {env : Env} {h₀ : Heap} {x : Str} {body : List Stmt} {Q : Flow → Shared → Prop} {D : Type}
/-- a loop over a list of the call's own -/
theorem lw_own {l : Addr} {items : List Value} {m₀ : Str → Option Value} {lo : Obj}
    (upd : D → Str → Option Value) (led : D → List (Addr × Obj)) (Inv : Nat → D → Prop) (d₀ : D)
    (hh : A.handled = none) (hl : s.heap.IsList l items.toArray) (hN : News h₀ env.locals s.heap ((l, lo) :: led d₀)) (hne : ∀ p ∈ led d₀, p.1 ≠ l)
    (F : Fr h₀ env.locals s.heap m₀) (hm : ∀ z, z ≠ x → m₀ z = upd d₀ z) (ha : ∀ d, (led d).map (·.1) = (led d₀).map (·.1)) (hI : Inv 0 d₀)
    (turn : ∀ (i : Nat) v d h tk own, items[i]? = some v → Inv i d → OwnOff own ((led d₀).map (·.1)) → Fr h₀ env.locals h (fun y => if y = x then some v else upd d y) → News h₀ env.locals h (led d ++ own) →
      wpAny (model prog w) A (execs body env) (LwTurn h₀ env.locals x upd led (Inv (i + 1)) own { s with heap := h, toks := tk } Q) E { s with heap := h, toks := tk })
    (done : ∀ (d : D) (u : Str → Option Value) (h : Heap) (tk : Nat), Inv items.length d → Fr h₀ env.locals h (fun y => if y = x then u y else upd d y) → News h₀ env.locals h (led d) → Q .next { s with heap := h, toks := tk }) :
    wpAny (model prog w) A (pyIter (.ref l)) (fun it s₂ => LoopAtV prog w A h₀ env x body Q E it s₂) E s := by
  obtain ⟨ol, hol, _⟩ := id hl
  have hlt : l < s.heap.objs.size := Heap.lt_size hol
  have hne' : l ≠ s.heap.objs.size := Nat.ne_of_lt hlt
  have N : News h₀ env.locals s.heap (led d₀) := fun p hp => hN p (.tail _ hp)
  refine wpAny_pyIter_list hl ?_
  have W := Walks.list (prog := prog) (w := w) hh s.heap.objs.size l hne' items.toArray
  have hlen : items.toArray.size = items.length := by simp
  rw [hlen] at W
  refine lw_walk upd led Inv d₀ W ?_ ?_ ?_ ?_ ⟨⟨_, Heap.get?_push_size _ rfl, rfl, rfl⟩, hl.at fun o e => Heap.get?_push_of_some _ e⟩ (F.push _) (fun p hp => ⟨Heap.get?_push_of_some _ (N p hp).1, (N p hp).2⟩) hm ha hI ?_ ?_
  · intro hm
    rcases List.mem_cons.mp hm with e | hm
    · exact absurd F.ns.lt (e ▸ Nat.lt_irrefl _)
    · exact (hN _ (.head _)).2.1 (List.mem_singleton.mp hm).symm
  · intro b hb
    rw [List.mem_singleton.mp hb]
    exact next_is_new F
  · intro p hp hI
    exact absurd (Heap.lt_size (N p hp).1) ((List.mem_singleton.mp hI) ▸ Nat.lt_irrefl _)
  · intro p hp hI
    rcases List.mem_cons.mp hI with e | hI
    · exact absurd (Heap.lt_size (N p hp).1) (e ▸ Nat.lt_irrefl _)
    · exact hne p hp (List.mem_singleton.mp hI)
  · rintro i v d h tk own hi hP hId hoff F' N'
    exact turn i v d h tk own (by simpa using hP) hId hoff F' N'
  · exact done
end
theorem ints_at : ∀ {us : List Value} {ds : List Int} {i : Nat} {v : Value}, IntsAre us ds → us[i]? = some v → ∃ c t, v = .int c t ∧ ds[i]? = some c
  | _, _, _, _, .nil, h => by simp at h
  | _, _, 0, _, .cons n t _, h => ⟨n, t, by simpa using h.symm, rfl⟩
  | _, _, i + 1, _, .cons _ _ r, h => by
    obtain ⟨c, t, e, q⟩ := ints_at (i := i) r (by simpa using h)
    exact ⟨c, t, e, by simpa using q⟩
theorem lw_join {M : Model} {A : Around} {E : Value → Shared → Prop} {s : Shared} {e : Sem Value} {Q : Value → Shared → Prop} (h : wpAny M A e (fun v s' => ∃ x t tk, v = .int x t ∧ s' = { s with toks := tk }) E s) (k : ∀ x t tk, Q (.int x t) { s with toks := tk }) : wpAny M A e Q E s :=
  wpAny_mono h (fun _ _ q => by obtain ⟨x, t, tk, rfl, rfl⟩ := q; exact k x t tk) fun _ _ q => q
theorem led_in1 {a : Addr} {o o' : Obj} {own own' : List (Addr × Obj)} (e : o = o') : ∀ p ∈ (a, o) :: own, p ∈ (a, o') :: (own ++ own') := fun p hp => by
  subst e
  rcases List.mem_cons.mp hp with rfl | hp
  · exact .head _
  · exact .tail _ (List.mem_append_left _ hp)
theorem own_in1 {p : Addr × Obj} {own own' : List (Addr × Obj)} : ∀ x ∈ own', x ∈ p :: (own ++ own') := fun _ hx => .tail _ (List.mem_append_right _ hx)
theorem one_in {p : Addr × Obj} {own : List (Addr × Obj)} : ∀ x ∈ [p], x ∈ p :: own := fun x hx => by
  rw [List.mem_singleton.mp hx]; exact .head _
theorem off_app1 {own own' rest : List (Addr × Obj)} {a : Addr} {o : Obj} (h : OwnOff own [a]) (h' : OwnOff own' (((a, o) :: rest).map (·.1))) : OwnOff (own ++ own') [a] := fun p hp c hc => by
  rcases List.mem_append.mp hp with hp | hp
  · exact h p hp c hc
  · refine h' p hp c ?_
    rw [List.mem_singleton.mp hc]; exact .head _
theorem small_snoc {ds : List Int} {x : Int} (h : ∀ y ∈ ds, 0 ≤ y ∧ y < 1024) : ∀ y ∈ ds ++ [x.fmod 1024], 0 ≤ y ∧ y < 1024 := fun y hy => by
  rcases List.mem_append.mp hy with hy | hy
  · exact h y hy
  · rw [List.mem_singleton.mp hy, Int.fmod_eq_emod_of_nonneg _ (by decide)]; omega
theorem upd_row {x a b z : Str} {u : Str → Option Value} {A A1 V A0 B0 R : Option Value} (hz : z ≠ x) (hab : b ≠ a) : (if z = b then u z else if z = a then A else if z = a then A1 else if z = x then V else if z = a then A0 else if z = b then B0 else R) = if z = a then A else if z = b then u b else R := by
  by_cases h2 : z = b
  · have h1 : z ≠ a := fun q => hab (h2.symm.trans q)
    rw [if_pos h2, if_neg h1, if_pos h2, h2]
  · by_cases h1 : z = a
    · rw [if_neg h2, if_pos h1, if_pos h1]
    · rw [if_neg h2, if_neg h1, if_neg h1, if_neg hz, if_neg h1, if_neg h2, if_neg h1, if_neg h2]
abbrev rowD := List Value × Nat × List Int × Option Value × Option Value
abbrev rowUpd (m : Str → Option Value) (d : rowD) : Str → Option Value := fun y => if y = Str.ofString "number" then d.2.2.2.1 else if y = Str.ofString "turn" then d.2.2.2.2 else m y
set_option maxHeartbeats 1000000 in
theorem row_spec (w : World) (v : Addr) (vs : List Value) (ns : List Int) : Spec w 30 202 [.ref v] (fun h => h.IsList v vs.toArray ∧ IntsAre vs ns ∧ vs.length ≤ 63) (fun h h' r => ∃ a ro, r = .ref a ∧ h.get? a = none ∧ h'.get? a = some ro ∧ RowOk ro) := by
  have hn : LwNames [Str.ofString "script"] := trivial
  have hlo : LwLoop := trivial
  k_extra "lw_enter"
  obtain ⟨hL, hI, hl⟩ := hpre
  k_steps
  refine lw_go ?_
  have hz := IntsAre.length hI
  rename IntsAre _ (List.take 40 ns) => hI4
  have hz4 := IntsAre.length hI4
  rename News s.heap _ _ (_ :: _ :: []) => N9
  refine' lw_own (D := rowD) (rowUpd _) (fun d => [(_, W.listOf d.1.toArray d.2.1)]) (fun i d => IntsAre d.1 d.2.2.1 ∧ (∀ x ∈ d.2.2.1, 0 ≤ x ∧ x < 1024) ∧ d.2.2.1.length ≤ 31 * i) ([], 0, [], none, none) rfl (News.isList N9 (List.mem_cons_self ..)) N9 ?hne (by assumption) (upd2_start (by exact rfl) (by exact rfl)) (fun _ => rfl) ⟨.nil, (fun _ h => nomatch h), Nat.le_refl _⟩ ?turn ?done
  case hne =>
    intro p hp
    rw [List.mem_singleton.mp hp]
    k_ne
  case turn =>
    rintro i v ⟨ds, dn, di, d1, d2⟩ h tk own hi ⟨hI1, hC, hl1⟩ hoff F1 N1
    dsimp only at hI1 hC hl1
    dsimp only [List.map] at hoff
    dsimp only [List.cons_append, List.nil_append] at N1
    obtain ⟨c, tc, rfl, hc⟩ := ints_at hI4 hi
    have hi4 : i < 40 := by
      have := (List.getElem?_eq_some_iff.mp hi).1
      rw [hz4, List.length_take] at this; omega
    have hlen := IntsAre.length hI1
    try k_fold
    k_steps
    refine lw_go ?_
    refine lw_join ?_ ?_
    · clear hl9
      k_steps
      all_goals exact ⟨_, _, _, rfl, rfl⟩
    intro X tX tkX
    k_steps
    refine lw_go ?_
    clear hl9
    refine' lw_range (D := innD) (n := 30) (innUpd _) (fun d => (_, W.listOf d.1.toArray d.2.1) :: own) (fun j d => IntsAre d.1 d.2.2.1 ∧ (∀ x ∈ d.2.2.1, 0 ≤ x ∧ x < 1024) ∧ d.2.2.1.length ≤ 31 * i + 1 + j) (ds ++ [_], dn + 1, di ++ [_], _, _) rfl (by assumption) (by decide) (by decide) (by assumption) ?hN (fun z hz => rfl) (fun _ => rfl) ⟨ints_snoc hI1, small_snoc hC, ?hl0⟩ ?turn2 ?done2
    case hl0 => show (di ++ [_]).length ≤ _; rw [List.length_append]; exact Nat.add_le_add_right hl1 1
    case hN => dsimp only; rw [← List.push_toArray]; assumption
    case turn2 =>
      rintro j t2 ⟨es, en, ei, ex, et⟩ h2 tk2 own2 hj ⟨hI2, hC2, hl2⟩ hoff2 F2 N2
      dsimp only at hI2 hC2 hl2
      replace hoff2 := off_app1 hoff hoff2
      dsimp only [List.cons_append] at N2
      have hlen2 := IntsAre.length hI2
      try k_fold
      k_steps
      · refine' turn_next (D := innD) (es ++ [_], en + 1, ei ++ [_], _, _) (by assumption) (by assumption) (fun z hz => upd_one (a := Str.ofString "number") hz) (led_in1 (congrArg (fun x => W.listOf x _) (List.push_toArray _ _).symm)) own_in1 ⟨ints_snoc hI2, small_snoc hC2, ?_⟩
        show (ei ++ [_]).length ≤ _
        rw [List.length_append]; exact Nat.add_le_add_right hl2 1
      · exact turn_next (D := innD) (es, en, ei, ex, et) F2 N2 (fun z hz => if_neg hz) (led_in1 rfl) own_in1 ⟨hI2, hC2, Nat.le_succ_of_le hl2⟩
    case done2 =>
      rintro ⟨es, en, ei, ex, et⟩ u h2 tk2 ⟨hI2, hC2, hl2⟩ F2 N2
      dsimp only at hI2 hC2 hl2 N2
      try k_unfold
      k_steps
      exact turn_next (D := rowD) (es, en, ei, _, _) (by assumption) (by assumption) (fun z hz => upd_row (a := Str.ofString "number") (b := Str.ofString "turn") hz (by decide)) one_in (fun p hp => .tail _ hp) ⟨hI2, hC2, hl2⟩
  case done =>
    rintro ⟨ds, dn, di, d1, d2⟩ u h tk ⟨hI1, hC, hl1⟩ F1 N1
    dsimp only at hI1 hC hl1 N1
    rw [hz4, List.length_take] at hl1
    have hlen := IntsAre.length hI1
    clear hl9
    try k_unfold
    k_steps
    rename IntsAre _ (List.take 160 di) => hI6
    have hz6 := IntsAre.length hI6
    rw [List.length_take] at hz6
    have h160 := sizeLine_eq
    rename News s.heap L' _ (_ :: _ :: []) => N9
    show wpAny _ _ (call (.builtin "list.reverse") [.ref _]) _ _ _
    refine reverse_head (by assumption) N9 (fun p hp => by rw [List.mem_singleton.mp hp]; k_ne) (fun h7 F7 N7 => ?_) (by rw [List.size_toArray]; omega)
    k_steps
    exact hret _ _ _ (Fr.keep F7) ⟨_, _, rfl, (N7 _ (.head _)).2.2, (N7 _ (.head _)).1, ⟨_, _, _, rfl, IntsAre.reverse hI6, fun x hx => hC x (List.mem_of_mem_take (List.mem_reverse.mp hx)), by rw [List.length_reverse, hz6]; omega⟩⟩
/-- the sign of a code -/
def sgn (c : Int) : Str := PySem.Txt.item (Str.ofString "01zx") c
def textOf (bs : List Int) : Str := PySem.Txt.join (Str.ofString "") (bs.reverse.map sgn)
theorem len01 : ((Str.ofString "01zx").length : Int) = 4 := by decide +kernel
theorem sgn_len {c : Int} (h : 0 ≤ c ∧ c ≤ 3) : (sgn c).length = 1 := by
  have : c = 0 ∨ c = 1 ∨ c = 2 ∨ c = 3 := by omega
  rcases this with rfl | rfl | rfl | rfl <;> decide +kernel
theorem down_n (n : Nat) (h : n ≤ 1000) : Builtin.Range.small ((n : Int) - 1) (-1) (-1) = true ∧ Builtin.Range.rangeSize ((n : Int) - 1) (-1) (-1) = (n : Int) := by
  refine ⟨small_down (by omega) (by omega) (by decide) (by decide), ?_⟩
  rw [rangeSize_downNat]; omega
theorem rev_take {bs : List Int} {j : Nat} (h : j < bs.length) : bs.reverse.take (j + 1) = bs.reverse.take j ++ [cd bs ((bs.length : Int) - 1 - j).toNat] := by
  have e : ((bs.length : Int) - 1 - j).toNat = bs.length - 1 - j := by omega
  have h' : j < bs.reverse.length := by rw [List.length_reverse]; exact h
  rw [e, List.take_succ_eq_append_getElem h', List.getElem_reverse, cd_at (by omega)]
theorem led_in0 {a : Addr} {o o' : Obj} {own : List (Addr × Obj)} (e : o = o') : ∀ p ∈ [(a, o)], p ∈ (a, o') :: own := fun p hp => by
  rw [List.mem_singleton.mp hp, e]; exact .head _
set_option maxHeartbeats 1000000 in
theorem text_spec (w : World) (r : Addr) (vs : List Value) (bs : List Int) : Spec w 20 235 [.ref r] (fun h => h.IsList r vs.toArray ∧ IntsAre vs bs ∧ Codes bs ∧ bs.length ≤ 100) (StrIs (textOf bs)) := by
  have hn : LwNames [Str.ofString "bits"] := trivial
  have hlo : LwLoop := trivial
  k_extra "lw_enter"
  obtain ⟨hL, hI, hC, hl⟩ := hpre
  have h01 := len01
  k_steps
  refine lw_go ?_
  k_dflt (refine LCg.ListComp_U (F₀ := by k_asm) (by with_unfolding_all rfl) (by decide) (by rfl) (by decide) (by rfl) ?_)
  k_steps
  refine lw_go ?_
  rename IntsAre _ bs.reverse => hR
  have hz := IntsAre.length hR
  rw [List.length_reverse] at hz
  have hsl := sizeLine_eq
  k_dflt (refine LCg.CompSrc.ledger (by rfl) (by k_asm) (by k_asm) (by k_mem) (by rw [List.size_toArray]; omega) ?_)
  intro g'
  refine' kct_list sgn hR (fun k' t' I' oI' C' oC' D' m' ys' h' tk' E' hk' hC' hx' F' N' off' ne' hM' => ?_) ?_
  · have hc := hC k' (List.mem_reverse.mp hk')
    (try simp only [LCg.Off3, and_true] at off')
    try k_fold
    k_steps
    exact kct_el rfl rfl rfl
  · unfold KPfDone
    intro ys hys hlen D h tk F7 N7 off7
    k_steps
    exact end_str (s := s) hret F7 rfl
set_option maxHeartbeats 1000000 in
theorem btext_spec (w : World) (v : Addr) (bs : List Int) (tx ty tz : Tok) : Spec w 20 174 [.ref v] (fun h => h.get? v = some (vecObj bs tx ty tz) ∧ Codes bs ∧ bs.length ≤ 100) (StrIs (textOf bs)) := by
  have hn : LwNames [Str.ofString "v"] := trivial
  have hlo : LwLoop := trivial
  k_extra "lw_enter"
  obtain ⟨hT, hC, hl⟩ := hpre
  k_steps
  refine lw_go ?_
  clear hl9
  have hb := down_n bs.length (by omega)
  have h01 := len01
  refine' lw_down (D := List Value × Nat) (n := bs.length) (fun _ => _) (fun d => [(_, W.listOf d.1.toArray d.2)]) (fun j d => StrsAre d.1 ((bs.reverse.take j).map sgn)) ([], 0) rfl (by assumption) hb.1 hb.2 (by assumption) (by assumption) (fun _ _ => rfl) (fun _ => rfl) .nil ?turn ?done
  case turn =>
    rintro j t ⟨ds, dn⟩ h tk own hj hS hoff F1 N1
    dsimp only at hS
    dsimp only [List.map] at hoff
    dsimp only [List.cons_append, List.nil_append] at N1
    have hcd := cd_range hC ((bs.length : Int) - 1 - j).toNat
    have hlen := hS.length
    rw [List.length_map, List.length_take] at hlen
    try k_fold
    k_steps
    refine' turn_next (D := List Value × Nat) (ds ++ [_], dn + 1) (by assumption) (by assumption) (fun z hz => if_neg hz) (led_in0 (congrArg (fun x => W.listOf x _) (List.push_toArray _ _).symm)) (fun p hp => .tail _ hp) ?_
    show StrsAre _ (List.map sgn (List.take (j + 1) bs.reverse))
    rw [rev_take hj, List.map_append]
    exact kct_snoc hS
  case done =>
    rintro ⟨ds, dn⟩ u h tk hS F1 N1
    dsimp only at hS N1
    rw [List.take_of_length_le (by rw [List.length_reverse]; exact Nat.le_refl _)] at hS
    have ktC : CarriedAll ds (bs.reverse.map fun k => PyData.str (sgn k)) := by
      have := hS.carried
      rw [List.map_map] at this; exact this
    have hlen : bs.reverse.length = bs.length := List.length_reverse
    have hk1 : ∀ c ∈ bs.reverse, 0 ≤ c ∧ c ≤ 3 := fun c hc => hC c (List.mem_reverse.mp hc)
    try k_unfold
    k_steps
    exact end_str (s := s) hret (by assumption) rfl
/-- where a text's sign stands among the digits -/
def place (x : Str) (i : Int) : Int := PySem.Txt.find (Str.ofString "01zxZX?") (PySem.Txt.item x i)
def menu (k : Int) : Int := ([0, 1, 2, 3, 2, 3, 2] : List Int).getD k.toNat 0
/-- the text says the row -/
def Says (x : Str) (bs : List Int) : Prop := x.length = bs.length ∧ ∀ i : Nat, i < bs.length → 0 ≤ place x i ∧ place x i ≤ 6 ∧ menu (place x i) = cd bs (bs.length - 1 - i)
theorem upd1_start {m : Str → Option Value} {x a : Str} (ha : m a = none) : ∀ z, z ≠ x → m z = if z = a then none else m z := fun z _ => by
  by_cases h1 : z = a
  · rw [if_pos h1, h1, ha]
  · rw [if_neg h1]
abbrev foundUpd (m : Str → Option Value) (d : List Value × Nat × Option Value) : Str → Option Value := fun y => if y = Str.ofString "found" then d.2.2 else m y
theorem find_gen {prog : Program} {w : World} {A : Around} {E : Value → Shared → Prop} {s : Shared} {x y : Str} {t u : Tok} {Q : Value → Shared → Prop} (h : ∀ k, PySem.Txt.find x y = k → Q (.int k s.toks) { s with toks := s.toks + 1 }) : wpAny (model prog w) A (call (.builtin "str.find") [.str x t, .str y u]) Q E s := SC.find (h _ rfl)
theorem led_in9 {a : Addr} {o o' : Obj} {q : Addr × Obj} {own : List (Addr × Obj)} (e : o = o') : ∀ p ∈ [(a, o)], p ∈ q :: (a, o') :: own := fun p hp => by
  rw [List.mem_singleton.mp hp, e]; exact .tail _ (.head _)
set_option maxHeartbeats 1000000 in
theorem from_text_spec (w : World) (x : Str) (tx : Tok) (bs : List Int) : Spec w 20 181 [.str x tx] (fun _ => Says x bs ∧ Codes bs ∧ bs.length ≤ 100) (VecIs bs) := by
  have hn : LwNames [Str.ofString "text"] := trivial
  have hlo : LwLoop := trivial
  k_extra "lw_enter"
  obtain ⟨⟨hx, hS⟩, hC, hl⟩ := hpre
  k_steps
  refine lw_go ?_
  clear hl9
  have hb := down_n x.length (by omega)
  refine' lw_down (D := List Value × Nat × Option Value) (n := x.length) (foundUpd _) (fun d => [(_, W.listOf d.1.toArray d.2.1)]) (fun j d => IntsAre d.1 (bs.take j)) ([], 0, none) rfl (by assumption) hb.1 hb.2 (by assumption) (by assumption) (upd1_start (by exact rfl)) (fun _ => rfl) .nil ?turn ?done
  case turn =>
    rintro j t ⟨ds, dn, d1⟩ h tk own hj hI hoff F1 N1
    dsimp only at hI
    dsimp only [List.map] at hoff
    dsimp only [List.cons_append, List.nil_append] at N1
    have hlen := IntsAre.length hI
    rw [List.length_take] at hlen
    have hp := hS (x.length - 1 - j) (by omega)
    have hi : ((x.length - 1 - j : Nat) : Int) = (x.length : Int) - 1 - j := by omega
    have hi2 : bs.length - 1 - (x.length - 1 - j) = j := by omega
    rw [hi, hi2] at hp
    obtain ⟨hp0, hp6, hpm⟩ := hp
    try k_fold
    k_steps
    refine lw_go ?_
    refine find_gen ?_
    intro k9 hk9
    have hk8 : place x ((x.length : Int) - 1 - j) = k9 := hk9
    rw [hk8] at hp0 hp6 hpm
    clear hk8 hk9
    k_steps
    refine lw_go ?_
    refine item_anyT (isTup_get (News.get (by k_asm) (by k_mem))) (.cons _ _ (.cons _ _ (.cons _ _ (.cons _ _ (.cons _ _ (.cons _ _ (.cons _ _ .nil))))))) (by omega) (by simp only [List.length_cons, List.length_nil]; omega) (by omega) ?_
    intro t8
    k_steps
    refine' turn_next (D := List Value × Nat × Option Value) (ds ++ [_], dn + 1, _) (by assumption) (by assumption) (fun z hz => upd_one (a := Str.ofString "found") hz) (led_in9 (congrArg (fun x => W.listOf x _) (List.push_toArray _ _).symm)) (fun p hp => .tail _ (.tail _ hp)) ?_
    show IntsAre (ds ++ [_]) (bs.take (j + 1))
    rw [take_snoc (by omega), ← hpm]
    exact ints_snoc hI
  case done =>
    rintro ⟨ds, dn, d1⟩ u h tk hI F1 N1
    dsimp only at hI N1
    rw [List.take_of_length_le (Nat.le_of_eq hx.symm)] at hI
    try k_unfold
    k_steps
    exact end_tup (s := s) hret (by assumption) (by assumption) (by k_mem) rfl rfl rfl
section
variable {w : World} {need : Nat} {f : Addr} {vs : List Value} {pre : Heap → Prop} {post : Heap → Heap → Value → Prop} {dp un : Nat} {gd : Option (List Code)} {cn : Str} {cs : Scope} {a : Addr} {ccd : Value} {cl : List (Str × Addr)} {outer : List Env} {A₀ : Around} {base h₀ : Heap} {L : Addr} {m : Str → Option Value} {news : List (Addr × Obj)} {loose : List Str} {mean : ExcName → Option Value} {mg mb : Str → Option Value} {s : Shared} {Q E : Value → Shared → Prop}
theorem use_new (C : Spec w need f vs pre (fun h h' r => ∃ a ro, r = .ref a ∧ h.get? a = none ∧ h'.get? a = some ro ∧ RowOk ro)) (B : Below A₀ base outer h₀) (F : Fr h₀ L s.heap m) (X : (hd.heap_39 w.params).In h₀) (N : News h₀ L s.heap news) (T : Top hd.view_39 loose mean mg mb h₀) (hk : cs.kind = .function) (hdp : dp + need < recursionLimit) (hu : un + 8 * need < cLine) (hp : pre s.heap)
    (ret : ∀ r ro h' tk', Fr h₀ L h' m → News h₀ L h' ((r, ro) :: news) → RowOk ro → AllNe r news → Q (.ref r) { s with heap := h', toks := tk' }) :
    wpAny (model PySem.Challenge.rw_nn0303_01.row.prog w) (ktrTop dp un gd cn cs L a ccd cl outer) (call (.ref f) vs) Q E s :=
  use_any C B F X N T hk hdp hu hp fun v h' tk' k F' N' p => by obtain ⟨r, ro, rfl, h1, h2, h3⟩ := p; exact ret r ro h' tk' F' (News.add F N k h1 h2) h3 (allNe_of (News.apart N h1))
theorem use_rowL {r : Addr} {ro : Obj} {g : Obj → List (Addr × Obj)} {n : Int} (C : SpecR w need f r vs pre (fun h h' v => ∃ bs, Codes bs ∧ (bs.length : Int) = n ∧ ListIs bs h h' v)) (B : Below A₀ base outer h₀) (F : Fr h₀ L s.heap m) (X : (hd.heap_39 w.params).In h₀) (N : News h₀ L s.heap news) (U : UpdF r ro news g) (hro : RowOk ro) (T : Top hd.view_39 loose mean mg mb h₀) (hk : cs.kind = .function) (hdp : dp + need < recursionLimit) (hu : un + 8 * need < cLine) (hp : pre s.heap)
    (ret : ∀ d k its bs h' tk' ro', Codes bs → (bs.length : Int) = n → IntsAre its.toList bs → Fr h₀ L h' m → News h₀ L h' ((d, listOf its k) :: g ro') → RowOk ro' → AllNe d (g ro') → Q (.ref d) { s with heap := h', toks := tk' }) :
    wpAny (model PySem.Challenge.rw_nn0303_01.row.prog w) (ktrTop dp un gd cn cs L a ccd cl outer) (call (.ref f) vs) Q E s := by
  refine use_row C B F X N U hro T hk hdp hu hp fun v h' tk' ro' F' N' ok hold p => ?_
  obtain ⟨bs, hC, hl, d, k, its, rfl, h1, h2, h3⟩ := p
  have hd0 : h₀.get? d = none := by
    cases q : h₀.get? d with
    | none => rfl
    | some o => rw [F.keep _ _ q] at h1; cases h1
  have hdL : d ≠ L := fun q => by
    obtain ⟨oL, _, _, hL, _⟩ := F.ns
    rw [q, hL] at h1; cases h1
  refine ret d k its bs h' tk' ro' hC hl h3 F' (fun p hp => ?_) ok (allNe_of fun p hp q => hold p hp (by rw [q]; exact h1))
  rcases List.mem_cons.mp hp with rfl | hp
  · exact ⟨h2, hdL, hd0⟩
  · exact N' p hp
end
/-- where a statement that only looks ends -/
def LwEnds (h₀ : Heap) (L : Addr) (m : Str → Option Value) (news : List (Addr × Obj)) (s : Shared) (f : Flow) (s' : Shared) : Prop :=
  f = .next ∧ ∃ h' tk', s' = { s with heap := h', toks := tk' } ∧ Fr h₀ L h' m ∧ News h₀ L h' news
def LwHop : Prop := True
theorem ends_of {h₀ h h' : Heap} {L : Addr} {m : Str → Option Value} {news news' : List (Addr × Obj)} {s : Shared} {tk tk' : Nat} (F : Fr h₀ L h' m) (N : News h₀ L h' news') (hs : ∀ p ∈ news, p ∈ news') :
    LwEnds h₀ L m news { s with heap := h, toks := tk } .next { s with heap := h', toks := tk' } := ⟨rfl, h', tk', rfl, F, fun p hp => N p (hs p hp)⟩
theorem lw_hop {M : Model} {A : Around} {E : Value → Shared → Prop} {s : Shared} {env : Env} {st : Stmt} {rest : List Stmt} {Q : Flow → Shared → Prop} {h₀ : Heap} {L : Addr} {m : Str → Option Value} {news : List (Addr × Obj)} (_ : Fr h₀ L s.heap m) (_ : News h₀ L s.heap news)
    (h : wpAny M A (exec st env) (LwEnds h₀ L m news s) E s)
    (k : ∀ h' tk', Fr h₀ L h' m → News h₀ L h' news → wpAny M A (execs rest env) Q E { s with heap := h', toks := tk' }) : wpAny M A (execs (st :: rest) env) Q E s :=
  wpAny_execs_cons (wpAny_mono h (fun f s' p => by obtain ⟨rfl, h', tk', rfl, F, N⟩ := p; exact k h' tk' F N) fun _ _ q => q)
theorem set_toks {s : Shared} {Q : Unit → Shared → Prop} (h : ∀ h' tk', Q () { s with heap := h', toks := tk' }) : Q () s := h s.heap s.toks
/-- the call of the law from outside -/
theorem call_top {prog : Program} {w : World} {s : Shared} {K : Frag} {mg mb : Str → Option Value} {p : Program} {loose : List Str} {mean : ExcName → Option Value}
    {Q E : Value → Shared → Prop} {name qual : Str} {params : Arguments} {body : List Stmt} {scope : Scope} {dV kV doc pm cdv ct oc : Value} {an od : Option Addr} {osl : Array (Option Value)} {f : Addr} {args : List Value} {names : List Str}
    (cl : Nat → List (Str × Addr)) (hcl : ∀ n, cellsFrom n scope.names [] = cl n) (hn : LwNames names) (X₀ : K.In s.heap) (T : Top p loose mean mg mb s.heap)
    (ho : K.lookup f = some ⟨oc, od, .func (fnOf name qual params body scope dV kV doc pm an cdv ct), osl⟩) (hcd : codeIn K cdv qual = true)
    (hbind : BindsTo s (fnOf name qual params body scope dV kV doc pm an cdv ct) ⟨args, []⟩ (names.zip args))
    (hkind : ∀ n, ∀ x ∈ names.zip args, scope.names.lookup x.1 = some .local ∨ (scope.names.lookup x.1 = some .cell ∧ ((cellsFrom n scope.names []).lookup x.1).isSome = true))
    (hnd : ((cellsFrom 0 scope.names []).map (·.1)).Nodup)
    (h : ∀ dp un gd L' h₁ tk cells, dp + 500 < recursionLimit → un + 8 * 500 < cLine → Fr s.heap L' h₁ (bindL (envOfC qual scope L' f cdv).kindOf (names.zip args) fun _ => none) → News s.heap L' h₁ cells →
      CellsAre (bindC (envOfC qual scope L' f cdv).kindOf (names.zip args) fun _ => none) (cl (L' + 1)) cells → Below callerA s.heap [] s.heap →
      wpAny (model prog w) (ktrTop dp un gd qual scope L' f cdv (cl (L' + 1)) []) (execs body (envX qual scope L' f cdv (cl (L' + 1))))
        (LwRet Q)
        (fun e s' => wpAny (model prog w) (ktrTop dp un gd qual scope L' f cdv (cl (L' + 1)) []) (leaving (envX qual scope L' f cdv (cl (L' + 1))) e) (fun _ s'' => E e s'') (fun e' s'' => E e' s'') s')
        { s with heap := h₁, toks := tk })
    (hco : scope.isCoroutine = false) (hgen : scope.isGenerator = false) (hk : scope.kind = .function) : wpAny (model prog w) callerA (call (.ref f) args) Q E s := by
  refine wpAny_call ?_
  refine codeAny_call_function (by decide +kernel) (X₀ _ _ ho) rfl hco hgen rfl (codeRec_of X₀ hcd) (hbind _ _ _ _ ?_)
  refine wpAny_newFunctionEnv_cells hk (hkind _) fun env' he s' x => ?_
  subst he
  refine ⟨T.nolimit.keeps x.toInCall.keep, codeAny_func ?_⟩
  obtain ⟨h₁, tk, rfl, _⟩ := x.done
  have hk₁ := x.toInCall.keep
  obtain ⟨cells, NC, Y⟩ := Cl.news (h₀ := s.heap) (Nat.le_refl _) fun n c hm => ⟨x.cell n c (lookup_of_mem_nodup (cellsFrom_names scope.names 0 (s.heap.objs.size + 1) [] [] rfl ▸ hnd) hm), x.above n c hm⟩
  rw [hcl] at Y
  have := h (callerA.depth + 1) (callerA.units + 3) callerA.guards s.heap.objs.size h₁ tk cells (by decide +kernel) (by decide +kernel) ⟨x.toInCall.ns, hk₁, Nat.le_refl _⟩ NC Y (below_caller s.heap)
  rw [← hcl] at this
  exact this
theorem cells3 {cm : Str → Option Value} {a b c : Str} {x y z : Addr} {cells : List (Addr × Obj)} (h : CellsAre cm [(a, x), (b, y), (c, z)] cells) : ∃ o p q, cells = [(x, o), (y, p), (z, q)] ∧ o.data = .cell (cm a) ∧ p.data = .cell (cm b) ∧ q.data = .cell (cm c) := by
  cases h with
  | cons h1 r => cases r with
    | cons h2 r => cases r with
      | cons h3 r => cases r; exact ⟨_, _, _, rfl, h1, h2, h3⟩
theorem bits_pre (x : Int) {k : Int} (hk : 0 < k ∧ k ≤ 99) : 1 ≤ 1 + x.fmod k ∧ 1 + x.fmod k ≤ 100 := by
  have h1 := Int.fmod_nonneg_of_pos x hk.1
  have h2 := Int.fmod_lt_of_pos x hk.1
  omega
theorem bits_len {bs : List Int} {x k : Int} (h : (bs.length : Int) = 1 + x.fmod k) (hk : 0 < k ∧ k ≤ 99) : 1 ≤ bs.length ∧ (bs.length : Int) ≤ k := by
  have h1 := Int.fmod_nonneg_of_pos x hk.1
  have h2 := Int.fmod_lt_of_pos x hk.1
  omega
theorem fmod_in (x : Int) {k a : Int} (hk : 0 < k) : ∃ y, a ≤ y ∧ y < a + k ∧ x.fmod k + a = y := by
  have h1 := Int.fmod_nonneg_of_pos x hk
  have h2 := Int.fmod_lt_of_pos x hk
  exact ⟨_, by omega, by omega, rfl⟩
theorem range_codes (bs : List Int) : (rangeKs 0 ((bs.length : Int) - 0).toNat).map (fun k => cd bs k.toNat) = bs := by
  have e : ((bs.length : Int) - 0).toNat = bs.length := by omega
  rw [e, rangeKs, List.map_map]
  refine Eq.trans (List.map_congr_left fun i _ => ?_) (range_cd bs)
  simp
theorem range_slice (bs : List Int) (lo : Int) (n : Int) : (rangeKs lo (lo + n - lo).toNat).map (fun k : Int => if 0 ≤ k ∧ k < bs.length then cd bs k.toNat else 3) = slice bs lo n.toNat := by
  have e : (lo + n - lo).toNat = n.toNat := by congr 1; omega
  rw [e, rangeKs, List.map_map]
  exact List.map_congr_left fun i _ => rfl
theorem slice_codes {bs : List Int} (h : Codes bs) (lo : Int) (n : Nat) : Codes (slice bs lo n) := codes_range_map fun j _ => by
  split
  · exact cd_range h _
  · exact ⟨by decide, by decide⟩
/-- a row with the first n codes of another put in -/
def putn (bs cs : List Int) (lo : Int) (n : Nat) : List Int := (List.range bs.length).map fun i : Nat => if 0 ≤ (i : Int) - lo ∧ (i : Int) - lo < n then cd cs ((i : Int) - lo).toNat else cd bs i
theorem putn_len (bs cs : List Int) (lo : Int) (n : Nat) : (putn bs cs lo n).length = bs.length := by simp [putn]
theorem putn_all (bs cs : List Int) (lo : Int) : putn bs cs lo cs.length = put bs cs lo := rfl
theorem putn_zero (bs cs : List Int) (lo : Int) : putn bs cs lo 0 = bs :=
  (List.map_congr_left fun i _ => if_neg (by omega)).trans (range_cd bs)
theorem putn_set {bs cs : List Int} {lo : Int} {n : Nat} (h0 : 0 ≤ lo + n) (h1 : lo + n < bs.length) : (putn bs cs lo n).set (lo + n).toNat (cd cs n) = putn bs cs lo (n + 1) := by
  apply List.ext_getElem
  · simp [putn]
  · intro i h2 h3
    have hi : i < bs.length := by simpa [putn] using h3
    rw [List.getElem_set]
    simp only [putn, List.getElem_map, List.getElem_range]
    by_cases e : (lo + n).toNat = i
    · rw [if_pos e, if_pos (by omega)]
      congr 1; omega
    · rw [if_neg e]
      by_cases c : 0 ≤ (i : Int) - lo ∧ (i : Int) - lo < n
      · rw [if_pos c, if_pos (by omega)]
      · rw [if_neg c, if_neg (by omega)]
theorem putn_skip {bs cs : List Int} {lo : Int} {n : Nat} (h : ¬ (0 ≤ lo + n ∧ lo + n < bs.length)) : putn bs cs lo n = putn bs cs lo (n + 1) := by
  refine List.map_congr_left fun i hi => ?_
  have hi := List.mem_range.mp hi
  by_cases c : 0 ≤ (i : Int) - lo ∧ (i : Int) - lo < n
  · rw [if_pos c, if_pos (by omega)]
  · rw [if_neg c, if_neg (by omega)]
theorem put_codes {bs cs : List Int} (h : Codes bs) (h' : Codes cs) (lo : Int) : Codes (put bs cs lo) := codes_range_map fun j _ => by
  split
  · exact cd_range h' _
  · exact cd_range h _
theorem ints_set {x : Int} {t : Tok} : ∀ {us : List Value} {ds : List Int} (i : Nat), IntsAre us ds → IntsAre (us.set i (.int x t)) (ds.set i x)
  | _, _, _, .nil => by simpa using IntsAre.nil
  | _, _, 0, .cons _ _ r => .cons _ _ r
  | _, _, i + 1, .cons n u r => .cons n u (ints_set i r)
theorem putn_set' {bs cs : List Int} {lo : Int} {n : Nat} (h0 : 0 ≤ lo + n) (h1 : lo + n < bs.length) : (putn bs cs lo n).set (lo + (0 + (n : Int))).toNat (cs.getD (0 + (n : Int)).toNat 0) = putn bs cs lo (n + 1) := by
  have h := putn_set (cs := cs) h0 h1
  simp only [Int.zero_add, Int.toNat_natCast]
  exact h
section
variable {w : World} {need : Nat} {f : Addr} {vs : List Value} {pre : Heap → Prop} {dp un : Nat} {gd : Option (List Code)} {cn : Str} {cs : Scope} {a : Addr} {ccd : Value} {cl : List (Str × Addr)} {outer : List Env} {A₀ : Around} {base h₀ : Heap} {L : Addr} {m : Str → Option Value} {news : List (Addr × Obj)} {loose : List Str} {mean : ExcName → Option Value} {mg mb : Str → Option Value} {s : Shared} {Q E : Value → Shared → Prop}
theorem use_put {v : Addr} {bs bs' : List Int} (C : Spec w need f vs pre (fun h h' r => VecIs bs h h' r ∨ (r = .ref v ∧ bs = bs'))) (B : Below A₀ base outer h₀) (F : Fr h₀ L s.heap m) (X : (hd.heap_39 w.params).In h₀) (N : News h₀ L s.heap news) (T : Top hd.view_39 loose mean mg mb h₀) (hk : cs.kind = .function) (hdp : dp + need < recursionLimit) (hu : un + 8 * need < cLine) (hp : pre s.heap)
    (ret : ∀ r tx ty tz h' tk', Fr h₀ L h' m → News h₀ L h' ((r, vecObj bs tx ty tz) :: news) → Q (.ref r) { s with heap := h', toks := tk' })
    (ret2 : bs = bs' → ∀ h' tk', Fr h₀ L h' m → News h₀ L h' news → Q (.ref v) { s with heap := h', toks := tk' }) :
    wpAny (model PySem.Challenge.rw_nn0303_01.row.prog w) (ktrTop dp un gd cn cs L a ccd cl outer) (call (.ref f) vs) Q E s :=
  use_any C B F X N T hk hdp hu hp fun v' h' tk' k F' N' p => by
    rcases p with ⟨r, tx, ty, tz, rfl, h1, h2⟩ | ⟨rfl, e⟩
    · exact ret r tx ty tz h' tk' F' (News.add F N k h1 h2)
    · exact ret2 e h' tk' F' N'
end
theorem concat3_spec (w : World) (l a b c : Addr) (x y z : List Int) : Spec w 2 153 [.ref l] (fun h => h.IsList l #[.ref a, .ref b, .ref c] ∧ VecAt h a x ∧ VecAt h b y ∧ VecAt h c z) (VecIs (z ++ y ++ x)) := by
  have C := concat_spec w l [(a, x), (b, y), (c, z)]
  intro dp un gd cn cs a' ccd cl outer A₀ base h₀ L m loose mean mg mb s Q E B F X T hk hdp hu hp hret
  refine C dp un gd cn cs a' ccd cl outer A₀ base h₀ L m loose mean mg mb s Q E B F X T hk hdp hu ⟨hp.1, fun p hp' => ?_, by simp⟩ hret
  rcases List.mem_cons.mp hp' with rfl | hp'
  · exact hp.2.1
  · rcases List.mem_cons.mp hp' with rfl | hp'
    · exact hp.2.2.1
    · rw [List.mem_singleton.mp hp']; exact hp.2.2.2
theorem concat2_spec (w : World) (l a b : Addr) (x y : List Int) : Spec w 2 153 [.ref l] (fun h => h.IsList l #[.ref a, .ref b] ∧ VecAt h a x ∧ VecAt h b y) (VecIs (y ++ x)) := by
  have C := concat_spec w l [(a, x), (b, y)]
  intro dp un gd cn cs a' ccd cl outer A₀ base h₀ L m loose mean mg mb s Q E B F X T hk hdp hu hp hret
  refine C dp un gd cn cs a' ccd cl outer A₀ base h₀ L m loose mean mg mb s Q E B F X T hk hdp hu ⟨hp.1, fun p hp' => ?_, by simp⟩ hret
  rcases List.mem_cons.mp hp' with rfl | hp'
  · exact hp.2.1
  · rw [List.mem_singleton.mp hp']; exact hp.2.2
theorem rep_codes {bs : List Int} (h : Codes bs) (n : Nat) : Codes (List.replicate n bs).flatten := fun x hx => by
  obtain ⟨l, hl, hx⟩ := List.mem_flatten.mp hx
  rw [(List.mem_replicate.mp hl).2] at hx
  exact h x hx
theorem rep_len {bs : List Int} {n : Nat} (h : bs.length ≤ 12) (hn : n ≤ 4) : (List.replicate n bs).flatten.length ≤ 2000 := by
  rw [List.length_flatten, List.map_replicate, List.sum_replicate_nat]
  have := Nat.mul_le_mul hn h
  omega
theorem joined_rev (b : List Int) : ∀ n, joined (List.replicate n b) = (List.replicate n b).flatten
  | 0 => rfl
  | n + 1 => by
    rw [List.replicate_succ, joined, joined_rev b n, List.flatten_cons, ← List.flatten_concat, ← List.replicate_succ', List.replicate_succ, List.flatten_cons]
theorem rep_joined (n : Nat) (b : List Int) : joined (List.replicate n b) = (List.replicate n b).flatten := joined_rev b n
theorem repeat2_spec (w : World) (v : Addr) (bs : List Int) (tx ty tz : Tok) (n : Int) (tn : Tok) : Spec w 4 160 [.ref v, .int n tn] (fun h => h.get? v = some (vecObj bs tx ty tz) ∧ Codes bs ∧ bs.length ≤ 100 ∧ 1 ≤ n ∧ n ≤ 8) (VecIs (List.replicate n.toNat bs).flatten) := by
  rw [← rep_joined]; exact repeat_spec w v bs tx ty tz n tn
def LwOne (x : Int) (s : Shared) (v : Value) (s' : Shared) : Prop := ∃ t tk, v = .int x t ∧ s' = { s with toks := tk }
theorem one_of {x y : Int} {s : Shared} {t : Tok} {tk : Nat} (e : y = x) : LwOne x s (.int y t) { s with toks := tk } := ⟨t, tk, by rw [e], rfl⟩
theorem lw_join1 {M : Model} {A : Around} {E : Value → Shared → Prop} {s : Shared} {e : Sem Value} {Q : Value → Shared → Prop} (x : Int) (h : wpAny M A e (LwOne x s) E s) (k : ∀ t tk, Q (.int x t) { s with toks := tk }) : wpAny M A e Q E s :=
  wpAny_mono h (fun _ _ q => by obtain ⟨t, tk, rfl, rfl⟩ := q; exact k t tk) fun _ _ q => q
theorem last_on {bs : List Int} {sg : Bool} (h : sg = true) : bs.getD (-1 + (bs.length : Int)).toNat 0 = lastc bs sg := by
  rw [lastc, if_pos h, show (-1 + (bs.length : Int)).toNat = ((bs.length : Int) - 1).toNat by omega, cd]
theorem last_off {bs : List Int} {sg : Bool} (h : sg = false) : (0 : Int) = lastc bs sg := by
  rw [lastc, h]; rfl
theorem canon7 {m : Str → Option Value} {a b c d e f g : Str} {va vb vc vd ve vf vg : Option Value} (ha : m a = va) (hb : m b = vb) (hc : m c = vc) (hd : m d = vd) (he : m e = ve) (hf : m f = vf) (hg : m g = vg) :
    m = fun y => if y = a then va else if y = b then vb else if y = c then vc else if y = d then vd else if y = e then ve else if y = f then vf else if y = g then vg else m y := by
  funext y
  by_cases h1 : y = a
  · rw [if_pos h1, h1, ha]
  by_cases h2 : y = b
  · rw [if_neg h1, if_pos h2, h2, hb]
  by_cases h3 : y = c
  · rw [if_neg h1, if_neg h2, if_pos h3, h3, hc]
  by_cases h4 : y = d
  · rw [if_neg h1, if_neg h2, if_neg h3, if_pos h4, h4, hd]
  by_cases h5 : y = e
  · rw [if_neg h1, if_neg h2, if_neg h3, if_neg h4, if_pos h5, h5, he]
  by_cases h6 : y = f
  · rw [if_neg h1, if_neg h2, if_neg h3, if_neg h4, if_neg h5, if_pos h6, h6, hf]
  by_cases h7 : y = g
  · rw [if_neg h1, if_neg h2, if_neg h3, if_neg h4, if_neg h5, if_neg h6, if_pos h7, h7, hg]
  rw [if_neg h1, if_neg h2, if_neg h3, if_neg h4, if_neg h5, if_neg h6, if_neg h7]
theorem flat_one (x : Int) : ∀ n, (List.replicate n [x]).flatten = List.replicate n x
  | 0 => rfl
  | n + 1 => by rw [List.replicate_succ, List.flatten_cons, flat_one x n]; rfl
theorem ext_take {bs : List Int} (_ : Codes bs) {n x : Int} (hn : 1 ≤ n) : bs.take n.toNat ++ (List.replicate (n - bs.length).toNat [x]).flatten = ext bs n.toNat x := by
  rw [flat_one]
  apply List.ext_getElem
  · rw [List.length_append, List.length_take, List.length_replicate, ext_len]; omega
  · intro i h1 h2
    rw [ext_len] at h2
    simp only [ext, List.getElem_map, List.getElem_range]
    rw [List.getElem_append]
    split
    · rename_i h
      rw [List.length_take] at h
      rw [List.getElem_take, if_pos (by omega), cd_at (by omega)]
    · rename_i h
      rw [List.length_take] at h
      rw [List.getElem_replicate, if_neg (by omega)]
theorem fn_cont {K : Frag} {f : Addr} {name qual name' qual' : Str} {params params' : Arguments} {body body' : List Stmt} {scope scope' : Scope} {dV kV doc pm cdv ct oc dV' kV' doc' pm' cdv' ct' oc' : Value} {an od an' od' : Option Addr} {osl osl' : Array (Option Value)} {P : Prop}
    (h : K.lookup f = some ⟨oc, od, .func (fnOf name qual params body scope dV kV doc pm an cdv ct), osl⟩) (h' : K.lookup f = some ⟨oc', od', .func (fnOf name' qual' params' body' scope' dV' kV' doc' pm' an' cdv' ct'), osl'⟩)
    (k : qual = qual' → body = body' → scope = scope' → cdv = cdv' → P) : P := by
  have e := Option.some.inj (h.symm.trans h')
  have e2 : Data.func (fnOf name qual params body scope dV kV doc pm an cdv ct) = Data.func (fnOf name' qual' params' body' scope' dV' kV' doc' pm' an' cdv' ct') := congrArg Obj.data e
  have e3 : fnOf name qual params body scope dV kV doc pm an cdv ct = fnOf name' qual' params' body' scope' dV' kV' doc' pm' an' cdv' ct' := Data.func.inj e2
  have e4 : FuncBody.stmts body = FuncBody.stmts body' := congrArg FuncData.body e3
  exact k (congrArg FuncData.qualname e3) (FuncBody.stmts.inj e4) (congrArg FuncData.scope e3) (congrArg FuncData.code e3)
theorem map_join (c d : Nat) : ∀ parts : List Str, (∀ p ∈ parts, c ∉ p.cps.toList) → (PySem.Str.join ⟨#[c]⟩ parts).cps.toList.map (fun y => if y = c then d else y) = (PySem.Str.join ⟨#[d]⟩ parts).cps.toList
  | [], _ => rfl
  | [p], h => by
    show p.cps.toList.map _ = p.cps.toList
    refine Eq.trans (List.map_congr_left fun y hy => ?_) (List.map_id _)
    exact if_neg fun (e : y = c) => h p (List.mem_singleton.mpr rfl) (e ▸ hy)
  | p :: q :: r, h => by
    have ih := map_join c d (q :: r) fun a ha => h a (List.mem_cons_of_mem _ ha)
    show (p ++ ⟨#[c]⟩ ++ PySem.Str.join ⟨#[c]⟩ (q :: r)).cps.toList.map _ = (p ++ ⟨#[d]⟩ ++ PySem.Str.join ⟨#[d]⟩ (q :: r)).cps.toList
    simp only [Str.cps_append, Array.toList_append, List.map_append]
    rw [ih]
    have e : p.cps.toList.map (fun y => if y = c then d else y) = p.cps.toList :=
      Eq.trans (List.map_congr_left fun y hy => if_neg fun (e : y = c) => h p (List.mem_cons_self ..) (e ▸ hy)) (List.map_id _)
    rw [e]
    simp
/-- a sign for a sign -/
theorem replace_char (x : Str) (c d : Nat) : (PySem.Txt.replace x ⟨#[c]⟩ ⟨#[d]⟩).cps.toList = x.cps.toList.map (fun y => if y = c then d else y) := by
  rw [StrLaws.replace_one, ← map_join c d _ (StrLaws.split_free x c), StrLaws.join_split]
def sc (c : Int) : Nat := if c = 0 then 48 else if c = 1 then 49 else if c = 2 then 122 else 120
def sc2 (c : Int) : Nat := if c = 0 then 48 else if c = 1 then 49 else if c = 2 then 63 else 88
def sc3 (c : Int) : Nat := if c = 0 then 48 else if c = 1 then 49 else if c = 2 then 90 else 88
theorem sgn_code {c : Int} (h : 0 ≤ c ∧ c ≤ 3) : sgn c = ⟨#[sc c]⟩ := by
  rcases code_cases h with rfl | rfl | rfl | rfl <;> decide +kernel
theorem jn_cons (x : Str) (r : List Str) : PySem.Str.join ⟨#[]⟩ (x :: r) = x ++ PySem.Str.join ⟨#[]⟩ r := by
  cases r with
  | nil => exact (Str.append_empty x).symm
  | cons y r' =>
    show x ++ (⟨#[]⟩ : Str) ++ PySem.Str.join ⟨#[]⟩ (y :: r') = _
    rw [show (x ++ (⟨#[]⟩ : Str)) = x from Str.append_empty x]
theorem join_sgn : ∀ {l : List Int}, Codes l → (PySem.Str.join ⟨#[]⟩ (l.map sgn)).cps.toList = l.map sc
  | [], _ => rfl
  | c :: r, h => by
    obtain ⟨hc, hr⟩ := codes_cons h
    rw [List.map_cons, jn_cons, Str.cps_append, Array.toList_append, join_sgn hr, sgn_code hc]; rfl
theorem codes_rev {bs : List Int} (h : Codes bs) : Codes bs.reverse := fun b hb => h b (List.mem_reverse.mp hb)
theorem textOf_cps {bs : List Int} (h : Codes bs) : (textOf bs).cps.toList = bs.reverse.map sc := by
  show (Builtin.Str.glued (Str.ofString "") (bs.reverse.map sgn)).cps.toList = _
  rw [StrLaws.glued_eq_join, show Str.ofString "" = ⟨#[]⟩ by decide +kernel]
  exact join_sgn (codes_rev h)
theorem len_cps (x : Str) : x.length = x.cps.toList.length := by simp [Str.length]
theorem place_at {x : Str} {i : Nat} {c : Nat} (h : x.cps.toList[i]? = some c) : place x i = PySem.Txt.find (Str.ofString "01zxZX?") ⟨#[c]⟩ := by
  have hi := (List.getElem?_eq_some_iff.mp h).1
  rw [← len_cps] at hi
  unfold place
  rw [item_at (n := i) (by omega) (by omega) (by omega), Array.getD_eq_getD_getElem?, ← Array.getElem?_toList, h]; rfl
def Good (f : Int → Nat) : Prop := ∀ c, 0 ≤ c ∧ c ≤ 3 → 0 ≤ PySem.Txt.find (Str.ofString "01zxZX?") ⟨#[f c]⟩ ∧ PySem.Txt.find (Str.ofString "01zxZX?") ⟨#[f c]⟩ ≤ 6 ∧ menu (PySem.Txt.find (Str.ofString "01zxZX?") ⟨#[f c]⟩) = c
theorem good_sc : Good sc := fun c h => by rcases code_cases h with rfl | rfl | rfl | rfl <;> decide +kernel
theorem good_sc2 : Good sc2 := fun c h => by rcases code_cases h with rfl | rfl | rfl | rfl <;> decide +kernel
theorem good_sc3 : Good sc3 := fun c h => by rcases code_cases h with rfl | rfl | rfl | rfl <;> decide +kernel
theorem rev_at {bs : List Int} {f : Int → Nat} {i : Nat} (hi : i < bs.length) : (bs.reverse.map f)[i]? = some (f (cd bs (bs.length - 1 - i))) := by
  rw [List.getElem?_map, List.getElem?_reverse hi, cd_at (by omega), List.getElem?_eq_getElem (by omega)]; rfl
theorem says_of {x : Str} {bs : List Int} {f : Int → Nat} (h : Codes bs) (hf : Good f) (hx : x.cps.toList = bs.reverse.map f) : Says x bs := by
  refine ⟨by rw [len_cps, hx]; simp, fun i hi => ?_⟩
  have e := rev_at (f := f) hi
  rw [← hx] at e
  rw [place_at e]
  exact hf _ (cd_range h _)
theorem says_text {bs : List Int} (h : Codes bs) : Says (textOf bs) bs := says_of h good_sc (textOf_cps h)
def oddOf (bs : List Int) : Str := PySem.Txt.replace (PySem.Txt.replace (textOf bs) (Str.ofString "z") (Str.ofString "?")) (Str.ofString "x") (Str.ofString "X")
theorem lit_z : Str.ofString "z" = ⟨#[122]⟩ := by decide +kernel
theorem lit_q : Str.ofString "?" = ⟨#[63]⟩ := by decide +kernel
theorem lit_x : Str.ofString "x" = ⟨#[120]⟩ := by decide +kernel
theorem lit_X : Str.ofString "X" = ⟨#[88]⟩ := by decide +kernel
theorem lit_Z : Str.ofString "Z" = ⟨#[90]⟩ := by decide +kernel
theorem map_codes {bs : List Int} (h : Codes bs) {f g : Int → Nat} (e : ∀ c, 0 ≤ c ∧ c ≤ 3 → f c = g c) : bs.map f = bs.map g := List.map_congr_left fun c hc => e c (h c hc)
theorem odd_cps {bs : List Int} (h : Codes bs) : (oddOf bs).cps.toList = bs.reverse.map sc2 := by
  unfold oddOf
  rw [lit_z, lit_q, lit_x, lit_X, replace_char, replace_char, textOf_cps h, List.map_map, List.map_map]
  exact map_codes (codes_rev h) fun c hc => by rcases code_cases hc with rfl | rfl | rfl | rfl <;> decide +kernel
theorem says_odd {bs : List Int} (h : Codes bs) : Says (oddOf bs) bs := says_of h good_sc2 (odd_cps h)
theorem odd2_cps {bs : List Int} (h : Codes bs) : (PySem.Txt.replace (oddOf bs) (Str.ofString "?") (Str.ofString "Z")).cps.toList = bs.reverse.map sc3 := by
  rw [lit_q, lit_Z, replace_char, odd_cps h, List.map_map]
  exact map_codes (codes_rev h) fun c hc => by rcases code_cases hc with rfl | rfl | rfl | rfl <;> decide +kernel
theorem says_odd2 {bs : List Int} (h : Codes bs) : Says (PySem.Txt.replace (oddOf bs) (Str.ofString "?") (Str.ofString "Z")) bs := says_of h good_sc3 (odd2_cps h)
/-- a text with one sign that is no digit -/
def BadAt (x : Str) (n p : Nat) : Prop := x.length = n ∧ p < n ∧ place x p = -1 ∧ ∀ i : Nat, p < i → i < n → 0 ≤ place x i ∧ place x i ≤ 6 ∧ 0 ≤ menu (place x i) ∧ menu (place x i) ≤ 3
theorem bad_of {x : Str} {bs : List Int} (h : Codes bs) {p b : Nat} (hp : p < bs.length) (hb : PySem.Txt.find (Str.ofString "01zxZX?") ⟨#[b]⟩ = -1) (hx : x.cps.toList = (bs.reverse.map sc2).take p ++ [b] ++ (bs.reverse.map sc2).drop (p + 1)) : BadAt x bs.length p := by
  have hl : (bs.reverse.map sc2).length = bs.length := by simp
  refine ⟨?_, hp, ?_, fun i h1 h2 => ?_⟩
  · rw [len_cps, hx, List.length_append, List.length_append, List.length_take, List.length_drop, hl, List.length_singleton]; omega
  · have e : x.cps.toList[p]? = some b := by
      rw [hx, List.append_assoc, List.getElem?_append_right (by rw [List.length_take, hl]; omega), List.length_take, hl, Nat.min_eq_left (by omega), Nat.sub_self]; rfl
    rw [place_at e, hb]
  · have e : x.cps.toList[i]? = some (sc2 (cd bs (bs.length - 1 - i))) := by
      rw [hx, List.getElem?_append_right (by rw [List.length_append, List.length_take, hl, List.length_singleton]; omega), List.length_append, List.length_take, hl, List.length_singleton, List.getElem?_drop, ← rev_at (f := sc2) h2]
      congr 1; omega
    have g := good_sc2 _ (cd_range h (bs.length - 1 - i))
    rw [place_at e]
    have := cd_range h (bs.length - 1 - i)
    exact ⟨g.1, g.2.1, by rw [g.2.2]; exact this.1, by rw [g.2.2]; exact this.2⟩
section
open Builtin Builtin.ObjectAttr
section
variable {prog : Program} {w : World} {A : Around} {E : Value → Shared → Prop} {K : Frag} {C D x : Addr} {h : Heap} {g : Array GenState} {d : Drawn} {t : Nat} {os : OsState} {cd : ClassData} {mA : Str → Option Value} {name : Str} {v : Value}
/-- what a store into an object changes -/
def StoreKeeps (h h' : Heap) (x : Addr) : Prop :=
  (∀ b o, b ≠ x → (∀ o₀ dx, h.get? x = some o₀ → o₀.dict = some dx → b ≠ dx) → h.get? b = some o → h'.get? b = some o) ∧
  ∀ o₀, h.get? x = some o₀ → ∃ o₁, h'.get? x = some o₁ ∧ o₁.cls = o₀.cls ∧ o₁.data = o₀.data ∧ o₁.slots = o₀.slots ∧ (∀ dx, o₀.dict = some dx → o₁.dict = some dx) ∧ (o₀.dict = none → ∀ dx, o₁.dict = some dx → h.get? dx = none)
/-- the store into an object's own dict, by itself -/
theorem own_store {tk : Tok} {Q : PySem.Fin → Shared → Prop} {ns : List Str} {b : Bool} (hx' : (Looks (model prog w) h (classData C) cd)) (hdd : cd.hasDict = true) (I : h.Inst x C mA)
    (hq : ∀ h' tk', h'.Inst x C (fun y => if y = name then some v else mA y) → StoreKeeps h h' x → Q (.done (.ret .none)) ⟨h', g, d, tk', os⟩) (hw : Within mA ns) (hsz : ns.length ≤ sizeLine) :
    wpAny (model prog w) A (storeInOwnDict (.ref x) (.ref C) (.str name tk) name v b) Q E ⟨h, g, d, t, os⟩ := by
  obtain ⟨o, hx, hc, hnc, hd⟩ := I
  refine wpAny_bind (wpAny_pure (wpAny_bind ?_))
  show wpAny _ _ (instanceDict x true) _ _ _
  unfold instanceDict
  refine wpAny_bind (wpAny_loadPart hx ?_)
  rw [hc]
  refine wpAny_bind (hx'.here ?_)
  rw [hdd]
  rcases hd with ⟨hdn, hmA⟩ | ⟨dx, hdx, hne, hns⟩
  · obtain ⟨oc, odi, oda, osl⟩ := o
    dsimp only at hc hdn hnc
    subst hc hdn
    have hx₁ : (h.push { cls := .type "dict", data := .dict #[] }).get? x = some ⟨.ref C, none, oda, osl⟩ := Heap.get?_push_of_some _ hx
    have hxs : x ≠ h.objs.size := Nat.ne_of_lt (Heap.lt_size hx)
    have go : wpAny (model prog w) A (alloc { cls := .type "dict", data := .dict #[] } >>= fun d' => update x (fun o => { o with dict := some d' }) >>= fun _ => dictMade (.ref C) x d') (fun a s' => wpAny (model prog w) A (match a with | some d => storeInDict d (.str name tk) name v | none => noDictFor (.ref x) (.ref C) name b) Q E s') E ⟨h, g, d, t, os⟩ := by
      refine wpAny_bind (wpAny_alloc (wpAny_bind (wpAny_update hx₁ ?_)))
      refine wpAny_pure ?_
      have hgd : ((h.push { cls := .type "dict", data := .dict #[] }).update x fun o => { cls := o.cls, dict := some h.objs.size, data := o.data, slots := o.slots }).get? h.objs.size
          = some { cls := .type "dict", data := .dict #[] } :=
        (Heap.get?_update_ne _ _ _ _ hxs.symm).trans (Heap.get?_push_at rfl rfl)
      have hnd : ((h.push { cls := .type "dict", data := .dict #[] }).update x fun o => { cls := o.cls, dict := some h.objs.size, data := o.data, slots := o.slots }).Ns h.objs.size (fun _ => none) :=
        ⟨_, #[], _, hgd, rfl, fun e he => absurd he (by simp), fun _ => rfl⟩
      show wpAny _ _ (storeInDict h.objs.size (.str name tk) name v) _ _ _
      unfold storeInDict newKeyGuard
      refine wpAny_bind (wpAny_pure (wpAny_bind (wpAny_nsSet1 (Heap.Ns1.of_empty hnd) fun h' hn' hsb => ?_)))
      obtain ⟨oD, esD, epD, hoD, hdD, hcD⟩ := hn'.count (Within.cons name v Within.nil)
      refine wpAny_bind (wpAny_lookBehind hoD (by rw [hdD]; exact pastItsLine_dict (Nat.le_trans hcD (by rw [List.length_cons, List.length_nil, sizeLine_eq]; omega))) ?_)
      refine wpAny_pure ?_
      have hx' : h'.get? x = some ⟨.ref C, some h.objs.size, oda, osl⟩ := by
        refine (hsb.2 x hxs).trans ((Heap.get?_update_self _ hx₁ ?_).trans rfl)
        have hfr := (Heap.get?_some_iff.mp hx).2
        cases oda <;> first | rfl | exact hfr
      refine hq h' _ ⟨_, hx', rfl, hnc, .inr ⟨h.objs.size, rfl, hxs.symm, ?_⟩⟩ ⟨fun b ob hbx _ hb => ?_, fun o₀ h₀ => ?_⟩
      · obtain ⟨o', es, ep, e1, e2, e3, eu, e4⟩ := hn'
        exact ⟨o', es, ep, e1, e2, e3, eu, fun y => by rw [e4 y]; by_cases hy : y = name <;> simp [hy, hmA]⟩
      · exact (hsb.2 b (Nat.ne_of_lt (Heap.lt_size hb))).trans ((Heap.get?_update_ne _ _ _ _ hbx).trans (Heap.get?_push_of_some _ hb))
      · obtain rfl := Option.some.inj (hx.symm.trans h₀)
        refine ⟨_, hx', rfl, rfl, rfl, (fun dx e => nomatch e), fun _ dx e => ?_⟩
        obtain rfl := Option.some.inj e
        exact Heap.get?_none_of_le (Nat.le_refl _)
    cases oda with
    | cls c => exact absurd rfl (hnc c)
    | _ => exact go
  · obtain ⟨oc, odi, oda, osl⟩ := o
    dsimp only at hc hdx hnc
    subst hc hdx
    refine wpAny_pure ?_
    show wpAny _ _ (storeInDict dx (.str name tk) name v) _ _ _
    unfold storeInDict newKeyGuard
    refine wpAny_bind (wpAny_pure (wpAny_bind (wpAny_nsSet1 hns fun h' hn' hsb => ?_)))
    obtain ⟨oD, esD, epD, hoD, hdD, hcD⟩ := hn'.count (Within.cons name v hw)
    refine wpAny_bind (wpAny_lookBehind hoD (by rw [hdD]; exact pastItsLine_dict (Nat.le_trans hcD (by rw [List.length_cons]; omega))) ?_)
    refine wpAny_pure ?_
    refine hq h' _ ⟨_, (hsb.2 x hne.symm).trans hx, rfl, hnc, .inr ⟨dx, rfl, hne, hn'⟩⟩ ⟨fun b ob _ hbd hb => ?_, fun o₀ h₀ => ?_⟩
    · exact (hsb.2 b (hbd _ dx hx rfl)).trans hb
    · obtain rfl := Option.some.inj (hx.symm.trans h₀)
      exact ⟨_, (hsb.2 x hne.symm).trans hx, rfl, rfl, rfl, fun _ e => e, (fun e => nomatch e)⟩
theorem exc_set {Q : Unit → Shared → Prop} {ns : List Str} (X : K.In h) (hc : clsIn K C = some cd) (hm : cd.mro = [.ref C, .ref D, .type "Exception", .type "BaseException", .type "object"]) (hdd : cd.hasDict = true)
    (hs : findIn K (.ref C) "__setattr__" = some (some (.builtin "object.__setattr__"))) (hf : findIn K (.ref C) name = some none) (I : h.Inst x C mA)
    (hq : ∀ h' tk', h'.Inst x C (fun y => if y = name then some v else mA y) → StoreKeeps h h' x → Q () ⟨h', g, d, tk', os⟩) (hw : Within mA ns) (hsz : ns.length ≤ sizeLine) :
    wpAny (model prog w) A (setAttr (.ref x) name v) Q E ⟨h, g, d, t, os⟩ := by
  obtain ⟨o, hx, hcl, hnc, hd⟩ := id I
  have SF := PySem.F.store_object
  have ht : Looks (model prog w) h (typeOf (.ref x)) (.ref C) := hcl ▸ (Looks.ld hx).andThen .now
  refine wpAny_bind (wpAny_mkText (wpAny_bind (wpAny_bind (wpAny_bind (ht.here (looks_findIn X hs _ _ _ _ (fun _ _ e => e) (wpAny_holding ?_)))))))
  rw [SF.slot.bind]
  refine wpAny_bind (wpAny_pure (wpAny_bind (wpAny_call ?_)))
  have hne : cd.mro.isEmpty = false := by rw [hm]; rfl
  have sub : Looks (model prog w) h (isInstance (.ref x) (.type "object")) true := ht.andThen (looks_mroIn X (by unfold mroIn; rw [hc, Option.bind_some, if_neg (by rw [hne]; decide), hm]; rfl))
  have hmr : Looks (model prog w) h (mroOf (.ref C)) cd.mro := (looks_clsIn X hc).andThen .now
  refine codeAny_call_builtin SF.slot.plain SF.entry (@check_slot (model prog w) _ _ _ "object.__setattr__" "object" "__setattr__" (.ref x) [.str name _, v] [] _ SF.kind SF.split sub (SF.args (.ref x) (.str name _) v) ?_)
  show wpAny _ _ («object.__setattr__» ⟨[.ref x, .str name _, v], []⟩) _ _ _
  rw [osa_eq, refuse_eq]
  refine wpAny_bind (wpAny_bind (ht.here (wpAny_bind (hmr.here ?_))))
  rw [hm, refuseLoop_ref, refuseLoop_ref, PySem.F.store_Exception.passes]
  refine wpAny_pure (wpAny_bind (ht.here (wpAny_bind ((looks_findIn X hf).here (wpAny_bind (wpAny_pure ?_))))))
  refine own_store (looks_clsIn X hc) hdd I (fun h' tk' I' k => ?_) hw hsz
  exact wpAny_pure (wpAny_pure (hq h' tk' I' k))
end
end
section
variable {prog : Program} {w : World} {A : Around} {h : Heap} {g : Array GenState} {d : Drawn} {t : Nat} {os : OsState}
variable {nm q : Str} {C N : Addr} {bs bm bmB : List Value} {hdct : Bool} {sn : List Str} {sub : List Value} {ab : Bool} {col : Option Bool} {dd : Option Addr} {k0 k1 k2 k3 k5 : Option Value} {B newId initId : String}
/-- what the chain of the class's bases says of the built-in names -/
def Says2 (bmB bm : List Value) : Prop := ∀ (X : String) (b : Bool), bmB.contains (.type X) = b → bm.contains (.type X) = b
theorem check_new {M : Model} {E : Value → Shared → Prop} (F : ExcBaseFacts B newId initId bmB) (T : Says2 bmB bm) {rest : List Value} {Q : Unit → Shared → Prop}
    (hC : h.get? C = some (excClassObj nm q C N bs bm hdct sn sub ab col dd k0 k1 k2 k3 k5 newId)) (hq : Q () ⟨h, g, d, t, os⟩) : wpAny M A (checkBuiltinCall newId ⟨.ref C :: rest, []⟩) Q E ⟨h, g, d, t, os⟩ := by
  have c1 : (Value.ref C :: bm).contains (.type B) = true := by rw [List.contains_cons, T _ _ F.hasB, Bool.or_true]
  have c2 := F.noStar
  simp only [checkBuiltinCall, F.newKind, F.newSplit, F.newRow]
  repeat (first | refine wpAny_loadPart_at hC ?_ | (refine wpAny_isSubtype_exc hC ?_; rw [c1]) | refine wpAny_staticBase_exc hC ?_ | refine wpAny_madeBy_exc hC ?_ | simp only [bne_self_eq_false, Bool.false_eq_true, if_false] | wp_step)
  exact hq
theorem exc_new {R : Result → Shared → Prop} (F : ExcBaseFacts B newId initId bmB) (T : Says2 bmB bm) {rest : List Value} (hC : h.get? C = some (excClassObj nm q C N bs bm hdct sn sub ab col dd k0 k1 k2 k3 k5 newId))
    (hr : rest.length ≤ sizeLine) (hq : R (.ok (.ret (.ref (h.objs.size + 1)))) ⟨(h.push { cls := .type "tuple", data := .seq rest.toArray }).push
      { cls := .ref C, data := .fields #[.ref h.objs.size, .none, .none, .none, .bool false, .none] }, g, d, t, os⟩) :
    codeAny (model prog w) A (.builtin newId ⟨.ref C :: rest, []⟩) R ⟨h, g, d, t, os⟩ := by
  have c0 := F.ends
  have c1 : (Value.ref C :: bm).contains (.type B) = true := by rw [List.contains_cons, T _ _ F.hasB, Bool.or_true]
  have c2 : (Value.ref C :: bm).contains (.type "AttributeError") = false := by rw [List.contains_cons, T _ _ F.noAttr]; rfl
  have c3 : (Value.ref C :: bm).contains (.type "NameError") = false := by rw [List.contains_cons, T _ _ F.noName]; rfl
  refine codeAny_builtinAt F.entry ?_
  unfold Builtin.«BaseException.__new__»
  refine PySem.wpAt_bind ?_
  show PySem.wpAt _ _ _ (stack >>= _) _ _ _
  refine PySem.wpAt_bind (PySem.wpAt_stack fun p below => PySem.wpAt_of_wpAny ?_)
  wp_walk
  refine PySem.wpAt_of_wpAny ?_
  rw [F.owner]
  repeat (first | with_reducible refine wpAny_madeHere_exc F.canon hC ?_ | with_reducible refine wpAny_loadPart_at hC ?_ | (with_reducible refine wpAny_isSubtype_exc hC ?_; first | rw [c1] | rw [c2] | rw [c3]) | wp_step)
  show R _ _
  rw [Heap.size_push]
  exact hq
/-- to raise an object of an own class, whatever it holds -/
theorem raise_made' {E : Value → Shared → Prop} {s : Shared} {env : Env} {x : Sem Value} {Q : Flow → Shared → Prop} (hh : A.handled = none)
    (hx : wpAny (model prog w) A x (fun v s₁ => ∃ e oe, v = .ref e ∧ (∃ nm q N bs bm hdct sn sub ab col dd k0 k1 k2 k3 k5 newId, s₁.heap.get? C = some (excClassObj nm q C N bs bm hdct sn sub ab col dd k0 k1 k2 k3 k5 newId) ∧ bm.contains (.type "BaseException") = true) ∧
      s₁.heap.get? e = some oe ∧ oe.cls = .ref C ∧ (∃ a, oe.data = .fields #[a, .none, .none, .none, .bool false, .none]) ∧ E (.ref e) s₁) E s) :
    wpAny (model prog w) A (raiseStmt env (some x) none) Q E s := by
  unfold raiseStmt
  refine wpAny_bind (wpAny_mono hx (fun v s₁ h₁ => ?_) fun _ _ y => y)
  obtain ⟨e, ⟨c, od, da, sl⟩, rfl, ⟨nm, q, N, bs, bm, hdct, sn, sub, ab, col, dd, k0, k1, k2, k3, k5, newId, hC, hb⟩, he, hc, ⟨a, ha⟩, hE⟩ := h₁
  have c1 : (Value.ref C :: bm).contains (.type "BaseException") = true := by rw [List.contains_cons, hb, Bool.or_true]
  obtain ⟨hp, g, d, tk, os⟩ := s₁
  dsimp only at hc ha
  subst hc ha
  repeat (first | with_reducible refine wpAny_loadPart_at he ?_ | with_reducible refine wpAny_loadPart_at hC ?_ | (with_reducible refine wpAny_isSubtype_exc hC ?_; rw [c1]) | wp_step)
  exact wpAny_raiseNew_none hh hE
theorem made_call {E : Value → Shared → Prop} (F : ExcBaseFacts B newId initId bmB) (T : Says2 bmB bm) {rest : List Value} {fI : Addr} {oI : Obj} {Q : PySem.Fin → Shared → Prop}
    (hC : h.get? C = some (excClassObj nm q C N bs bm hdct sn sub ab col dd k0 k1 k2 k3 k5 newId)) (hi : Looks (model prog w) h (typeLookup (.ref C) "__init__") (some (.ref fI))) (hfI : h.get? fI = some oI) (hfc : oI.cls = .type "function") (hr : rest.length ≤ sizeLine)
    (hq : ∀ h' e, Heap.MadeExcOf h h' e (.ref C) rest → h.objs.size ≤ h'.objs.size → wpAny (model prog w) A (call (.ref fI) (.ref e :: rest)) (fun r s' => r = .none ∧ Q (.done (.ret (.ref e))) s') E ⟨h', g, d, t, os⟩) :
    wpAny (model prog w) A (Builtin.«type.__call__» ⟨.ref C :: rest, []⟩) Q E ⟨h, g, d, t, os⟩ := by
  repeat (first | with_reducible refine wpAny_loadPart_at hC ?_ | with_reducible refine wpAny_madeBy_exc hC ?_ | wp_step)
  refine codeAny_call_builtin_code (Code.quiet_builtin _ F.quiet) (check_new F T hC ?_)
  refine exc_new F T hC hr ?_
  show wpAny _ _ _ _ _ _
  have k : ∀ b o, h.get? b = some o → ((h.push { cls := .type "tuple", data := .seq rest.toArray }).push { cls := .ref C, data := .fields #[.ref h.objs.size, .none, .none, .none, .bool false, .none] }).get? b = some o :=
    fun b o e => Heap.get?_push_of_some _ (Heap.get?_push_of_some _ e)
  have he : ((h.push { cls := .type "tuple", data := .seq rest.toArray }).push
      { cls := .ref C, data := .fields #[.ref h.objs.size, .none, .none, .none, .bool false, .none] }).get? (h.objs.size + 1) = some
      { cls := .ref C, data := .fields #[.ref h.objs.size, .none, .none, .none, .bool false, .none] } := by heap_get
  have c1 : (Value.ref C :: bm).contains (.ref C) = true := by simp
  have hC₁ := k _ _ hC
  unfold isInstance
  repeat (first | with_reducible refine wpAny_loadPart_at he ?_ | (with_reducible refine wpAny_isSubtype_exc hC₁ ?_; rw [c1]) | wp_step)
  show wpAny _ _ (typeLookup (.ref C) _) _ _ _
  refine (hi.keeps k).here ?_
  refine wpAny_holding (wpAny_bind ?_)
  unfold bindSpecial
  refine wpAny_bind (wpAny_typeOf (T := "function") ⟨_, k _ _ hfI, hfc⟩ ?_)
  rw [if_pos (by decide)]
  refine wpAny_pure (wpAny_bind (wpAny_mono (hq _ (h.objs.size + 1) ⟨k, Heap.get?_none_of_le (Nat.le_succ _), h.objs.size, he, Heap.get?_none_of_le (Nat.le_refl _), ?_⟩ (by rw [Heap.size_push, Heap.size_push]; omega)) (fun r s' hr => ?_) fun _ _ x => x))
  · exact Heap.get?_push_of_some _ (Heap.get?_push_at rfl rfl)
  · obtain ⟨rfl, hQ⟩ := hr
    wp_walk
    exact hQ
theorem call_made {E : Value → Shared → Prop} (F : ExcBaseFacts B newId initId bmB) (T : Says2 bmB bm) {rest : List Value} {fI : Addr} {oI : Obj} {Q : Value → Shared → Prop}
    (hC : h.get? C = some (excClassObj nm q C N bs bm hdct sn sub ab col dd k0 k1 k2 k3 k5 newId)) (hi : Looks (model prog w) h (typeLookup (.ref C) "__init__") (some (.ref fI))) (hfI : h.get? fI = some oI) (hfc : oI.cls = .type "function") (hr : rest.length ≤ sizeLine)
    (hq : ∀ h' e, Heap.MadeExcOf h h' e (.ref C) rest → h.objs.size ≤ h'.objs.size → wpAny (model prog w) (A.under (.builtin "type.__call__" ⟨.ref C :: rest, []⟩)) (call (.ref fI) (.ref e :: rest)) (fun r s' => r = .none ∧ Q (.ref e) s') E ⟨h', g, d, t, os⟩) :
    wpAny (model prog w) A (call (.ref C) rest) Q E ⟨h, g, d, t, os⟩ := by
  have f1 := tc_lookup
  have f2 := tc_bind (.ref C)
  have hT : (⟨h, g, d, t, os⟩ : Shared).TypeIs (.ref C) "type" := ⟨_, hC, rfl⟩
  refine wpAny_call (PySem.codeAny_of_tree ?_)
  show wpAny _ _ (callAny (.ref C) _) _ _ _
  repeat (any_goals (first | assumption | with_reducible refine wpAny_loadPart_at hC ?_ | wp_step))
  refine ⟨rfl, ?_⟩
  refine codeAny_call_builtin_at (Code.quiet_builtin _ (by decide +kernel)) entry_typeCall (wpAny_check_type_call_sub hC (made_call F T hC hi hfI hfc hr fun h' e hm hz => ?_))
  exact hq h' e hm hz
end
/-- an object of an own exception class, made behind the heap g -/
structure ExcAt (g h : Heap) (e C : Addr) (mA : Str → Option Value) : Prop where
  new : g.get? e = none
  inst : h.Inst e C mA
  dict : ∀ o dx, h.get? e = some o → o.dict = some dx → g.get? dx = none
  data : ∃ o a0, h.get? e = some o ∧ o.data = .fields #[a0, .none, .none, .none, .bool false, .none]
def ExcOff (h : Heap) (L e : Addr) : Prop := e ≠ L ∧ ∀ o dx, h.get? e = some o → o.dict = some dx → dx ≠ L
theorem store_exc {g h h' : Heap} {L e C : Addr} {m mA mA' : Str → Option Value} (F : Fr g L h m) (I : ExcAt g h e C mA) (O : ExcOff h L e) (I' : h'.Inst e C mA') (k : StoreKeeps h h' e) : Fr g L h' m ∧ ExcAt g h' e C mA' ∧ ExcOff h' L e := by
  obtain ⟨k1, k2⟩ := k
  obtain ⟨oL, es, ep, hL, hLd, hLk, hLf⟩ := F.ns
  obtain ⟨o, a0, he, hd⟩ := I.data
  obtain ⟨o₁, he₁, hc₁, hd₁, hs₁, hx₁, hx₂⟩ := k2 o he
  have off : ∀ b ob, g.get? b = some ob → h'.get? b = some ob := fun b ob hb => by
    refine k1 b ob (fun q => ?_) (fun o₀ dx h₀ h₁ q => ?_) (F.keep _ _ hb)
    · rw [q, I.new] at hb; cases hb
    · rw [q, I.dict o₀ dx h₀ h₁] at hb; cases hb
  have dcase : ∀ o₂ dx, h'.get? e = some o₂ → o₂.dict = some dx → (o.dict = some dx ∨ h.get? dx = none) := fun o₂ dx h₂ hd₂ => by
    obtain rfl := Option.some.inj (he₁.symm.trans h₂)
    cases q : o.dict with
    | none => exact .inr (hx₂ q dx hd₂)
    | some dy =>
      have := hx₁ dy q
      rw [hd₂] at this
      exact .inl this.symm
  refine ⟨⟨⟨oL, es, ep, k1 L oL (Ne.symm O.1) (fun o₀ dx h₀ h₁ q => O.2 o₀ dx h₀ h₁ q.symm) hL, hLd, hLk, hLf⟩, off, F.above⟩, ⟨I.new, I', fun o₂ dx h₂ hd₂ => ?_, ⟨o₁, a0, he₁, hd₁.trans hd⟩⟩, O.1, fun o₂ dx h₂ hd₂ => ?_⟩
  · rcases dcase o₂ dx h₂ hd₂ with q | q
    · exact I.dict o dx he q
    · cases z : g.get? dx with
      | none => rfl
      | some oz => rw [F.keep _ _ z] at q; cases q
  · rcases dcase o₂ dx h₂ hd₂ with q | q
    · exact O.2 o dx he q
    · intro z; rw [z, hL] at q; cases q
theorem exc_word {prog : Program} {w : World} {A : Around} {E : Value → Shared → Prop} {s : Shared} {K : Frag} {C D e L : Addr} {g : Heap} {m mA : Str → Option Value} {cd : ClassData} {name : Str} {v : Value} {Q : Unit → Shared → Prop} {ns : List Str}
    (F : Fr g L s.heap m) (X : K.In g) (I : ExcAt g s.heap e C mA) (O : ExcOff s.heap L e) (hc : clsIn K C = some cd) (hm : cd.mro = [.ref C, .ref D, .type "Exception", .type "BaseException", .type "object"]) (hdd : cd.hasDict = true)
    (hs : findIn K (.ref C) "__setattr__" = some (some (.builtin "object.__setattr__"))) (hf : findIn K (.ref C) name = some none) (hw : PySem.Within mA ns) (hsz : ns.length ≤ sizeLine)
    (h : ∀ h' tk', Fr g L h' m → ExcAt g h' e C (fun y => if y = name then some v else mA y) → ExcOff h' L e → PySem.Within (fun y => if y = name then some v else mA y) (name :: ns) → Q () { s with heap := h', toks := tk' }) :
    wpAny (model prog w) A (setAttr (.ref e) name v) Q E s := by
  obtain ⟨hh, gs, d, t, os⟩ := s
  refine exc_set (D := D) (ns := ns) (X.keeps F.keep) hc hm hdd hs hf I.inst (fun h' tk' I' k => ?_) hw hsz
  obtain ⟨F', J', O'⟩ := store_exc F I O I' k
  exact h h' tk' F' J' O' (hw.cons name v)
/-- the call of a def with an object that lies outside the ground -/
theorem call_I {prog : Program} {w : World} {A₀ A : Around} {s : Shared} {base h₀ hp : Heap} {outer : List Env} {L : Addr} {m : Str → Option Value} {env : Env} {K : Frag} {mg mb : Str → Option Value} {p : Program} {loose : List Str} {mean : ExcName → Option Value}
    {Q E : Value → Shared → Prop} {name qual : Str} {params : Arguments} {body : List Stmt} {scope : Scope} {dV kV doc pm cdv ct oc : Value} {an od : Option Addr} {osl : Array (Option Value)} {f : Addr} {args : List Value} {names : List Str}
    (hn : LwNames names) (B : Below A₀ base outer h₀) (F : Fr h₀ L hp m) (X₀ : K.In h₀) (T : Top p loose mean mg mb h₀) (kp : hp.StaysIn s.heap) (kz : hp.objs.size ≤ s.heap.objs.size) (hA : A.frames = some (env :: outer)) (hf : env.frame = some L) (hke : env.scope.kind = .function)
    (ho : K.lookup f = some ⟨oc, od, .func (fnOf name qual params body scope dV kV doc pm an cdv ct), osl⟩) (hcd : codeIn K cdv qual = true) (hroom : A.depth < recursionLimit)
    (hbind : BindsTo s (fnOf name qual params body scope dV kV doc pm an cdv ct) ⟨args, []⟩ (names.zip args)) (hloc : ∀ y ∈ names.zip args, scope.names.lookup y.1 = some .local)
    (h : ∀ L' h₁ tk₁, Fr hp L' h₁ (fun y => (names.zip args).reverse.lookup y) → News hp L' h₁ [] → s.heap.StaysIn h₁ → (∀ b o, s.heap.get? b = some o → b ≠ L') → Below A base (env :: outer) hp → K.In hp → Top p loose mean mg mb hp →
      wpAny (model prog w) (A.deeper (envOf qual scope L' f cdv)) (execs body (envOf qual scope L' f cdv))
        (LwRet Q)
        (fun e s' => wpAny (model prog w) (A.deeper (envOf qual scope L' f cdv)) (leaving (envOf qual scope L' f cdv) e) (fun _ s'' => E e s'') (fun e' s'' => E e' s'') s')
        { s with heap := h₁, toks := tk₁ })
    (hco : scope.isCoroutine = false) (hgen : scope.isGenerator = false) (hk : scope.kind = .function)
    (hcell : ∀ x ∈ scope.names, x.2 ≠ .cell) : wpAny (model prog w) A (call (.ref f) args) Q E s := by
  refine wpAny_call ?_
  obtain ⟨FG, BG, st, lv⟩ := groundX (s := { s with heap := hp }) (R := fun r s' => match r with | .ok (.ret v) => Q v s' | .ok _ => False | .error e => E e s') B F News.nil hA hf hke
  refine codeAny_call_def (fd := fnOf name qual params body scope dV kV doc pm an cdv ct) (body := body) (binds := names.zip args) hroom ((X₀.keeps F.keep).keeps kp _ _ ho) rfl ((T.nolimit.keeps F.keep).keeps kp) (codeRec_of ((X₀.keeps F.keep).keeps kp) hcd) rfl hbind hcell hloc (fun h₁ hns hk₁ => ?_) hco hgen hk
  exact h s.heap.objs.size h₁ _ ⟨hns, fun b o e => hk₁ b o (kp b o e), kz⟩ News.nil hk₁ (fun b o e => Nat.ne_of_lt (Heap.lt_size e)) BG (X₀.keeps F.keep) (T.keeps F.keep)
def excMap (k p c : Value) : Str → Option Value := fun y => if y = Str.ofString "detail" then some c else if y = Str.ofString "at" then some p else if y = Str.ofString "kind" then some k else none
set_option maxHeartbeats 2000000 in
theorem init_spec (w : World) (e : Addr) (k p c : Value) : ∀ (dp un : Nat) (gd : Option (List Code)) (cn : Str) (cs : Scope) (a : Addr) (ccd : Value) (cl : List (Str × Addr)) (outer : List Env) (A₀ : Around) (base h₀ hp : Heap) (L : Addr) (m : Str → Option Value) (loose : List Str) (mean : ExcName → Option Value) (mg mb : Str → Option Value) (s : Shared) (Q E : Value → Shared → Prop),
    Below A₀ base outer h₀ → Fr h₀ L hp m → (hd.heap_39 w.params).In h₀ → Top hd.view_39 loose mean mg mb h₀ → cs.kind = .function → dp + 1 < recursionLimit → un + 8 < cLine → hp.StaysIn s.heap → hp.objs.size ≤ s.heap.objs.size → ExcAt hp s.heap e 45 (fun _ => none) → (∀ o dx, s.heap.get? e = some o → o.dict = some dx → s.heap.get? dx ≠ none) →
    (∀ h' tk', hp.StaysIn h' → ExcAt hp h' e 45 (excMap k p c) → Q .none { s with heap := h', toks := tk' }) →
    wpAny (model PySem.Challenge.rw_nn0303_01.row.prog w) (ktrTop dp un gd cn cs L a ccd cl outer) (call (.ref 29) [.ref e, k, p, c]) Q E s := by
  have hn : LwNames [Str.ofString "self", Str.ofString "kind", Str.ofString "at", Str.ofString "detail"] := trivial
  k_fill
  intro dp un gd cn cs a ccd cl outer A₀ base h₀ hp L m loose mean mg mb s Q E B F X T hk hdp hun kp kz I hdx hret
  k_dflt (refine' call_I ?k0 ?k1 ?k2 ?k3 ?k5 ?kp ?kz ?kA ?kF ?kK ?k6 ?k7 ?k8 ?k9 ?kB ?_ ?c2 ?c3 ?c4 ?c5; (case kp => assumption); (case kz => assumption); ((case kA => exact rfl); (case kF => exact rfl); (case kK => assumption); (case k0 => with_reducible assumption); (case k1 => k_asm); (case k2 => k_asm); (case k3 => k_asm); (case k5 => k_asm); (case k6 => k_is); (case k7 => k_is); (case k8 => ktr_room); (case k9 => first | exact BindsTo.of_eq rfl | exact binds_K ((X.keeps F.keep).keeps kp) rfl (by k_is) rfl rfl rfl); (case c5 => decide); (case kB => exact locs rfl); (case c2 => exact rfl); (case c3 => exact rfl); (case c4 => exact rfl)); k_whole)
  intro L' h' tk₁ F' N' st ne B' X' T'
  obtain ⟨o, a0, he, hdat⟩ := I.data
  have O : ExcOff h' L' e := ⟨ne e o he, fun o' dx h₁ h₂ => by
    obtain rfl := Option.some.inj ((st _ _ he).symm.trans h₁)
    cases q : s.heap.get? dx with
    | none => exact absurd q (hdx _ dx he h₂)
    | some z => exact ne dx z q⟩
  have I' : ExcAt hp h' e 45 (fun _ => none) := by
    refine ⟨I.new, ?_, fun o' dx h₁ h₂ => ?_, ⟨o, a0, st _ _ he, hdat⟩⟩
    · obtain ⟨o', he', hc, hnc, hd⟩ := I.inst
      refine ⟨o', st _ _ he', hc, hnc, hd.elim .inl fun ⟨dx, q1, q2, q3⟩ => .inr ⟨dx, q1, q2, q3.at (st dx)⟩⟩
    · obtain rfl := Option.some.inj ((st _ _ he).symm.trans h₁)
      exact I.dict _ dx he h₂
  have W : PySem.Within (fun _ : Str => (none : Option Value)) [] := PySem.Within.nil
  clear I hdx
  k_with "setAttr ref" => ((with_reducible rename ExcAt _ _ _ _ _ => ix9); (with_reducible rename ExcOff _ _ _ => ox9); (with_reducible rename PySem.Within _ _ => wx9); k_here; k_dflt (refine' exc_word (K := hd.heap_39 w.params) (D := 32) (by k_asm) (by k_asm) ix9 ox9 (by k_is) rfl rfl (by k_is) (by k_is) wx9 (by simp only [List.length_cons, List.length_nil, sizeLine_eq]; omega) ?_; k_whole); clear ix9 ox9 wx9; intro h' tk' F' I' O' W')
  try dsimp only
  try k_fold
  k_steps
  exact hret _ _ (by assumption : Fr hp L' _ _).keep I'
theorem fe_says : Says2 [.type "Exception", .type "BaseException", .type "object"] [.ref 32, .type "Exception", .type "BaseException", .type "object"] := fun X b h => by
  rw [List.contains_cons, h]; rfl
set_option maxHeartbeats 2000000 in
theorem make_spec (w : World) (k p c : Value) : ∀ (dp un : Nat) (gd : Option (List Code)) (cn : Str) (cs : Scope) (a : Addr) (ccd : Value) (cl : List (Str × Addr)) (outer : List Env) (A₀ : Around) (base h₀ : Heap) (L : Addr) (m : Str → Option Value) (loose : List Str) (mean : ExcName → Option Value) (mg mb : Str → Option Value) (s : Shared) (Q E : Value → Shared → Prop),
    Below A₀ base outer h₀ → Fr h₀ L s.heap m → (hd.heap_39 w.params).In h₀ → Top hd.view_39 loose mean mg mb h₀ → cs.kind = .function → dp + 2 < recursionLimit → un + 16 < cLine →
    (∀ e h' tk', s.heap.StaysIn h' → ExcAt s.heap h' e 45 (excMap k p c) → Q (.ref e) { s with heap := h', toks := tk' }) →
    wpAny (model PySem.Challenge.rw_nn0303_01.row.prog w) (ktrTop dp un gd cn cs L a ccd cl outer) (call (.ref 45) [k, p, c]) Q E s := by
  k_fill
  intro dp un gd cn cs a ccd cl outer A₀ base h₀ L m loose mean mg mb s Q E B F X T hk hdp hun hret
  have Xs := X.keeps F.keep
  obtain ⟨hh, g, d, t, os⟩ := s
  refine call_made (C := 45) PySem.F.excBase_Exception fe_says (Xs _ _ (by k_is)) (looks_findIn Xs (by k_is)) (Xs _ _ (by k_is)) (by exact rfl) (by show _ ≤ _; simp only [List.length_cons, List.length_nil, sizeLine_eq]; omega) fun h' e hm hz => ?_
  show wpAny _ (ktrTop (dp + 1) (un + _) gd cn cs L a ccd cl outer) _ _ _ _
  obtain ⟨tt, he, htn, htt⟩ := hm.there
  refine init_spec w e k p c _ _ _ _ _ _ _ _ _ _ _ _ _ _ _ _ _ _ _ _ _ _ B F X T hk (by omega) ?_ hm.keeps hz ⟨hm.new, ⟨_, he, rfl, (fun c z => by cases z), .inl ⟨rfl, fun _ => rfl⟩⟩, (fun o dx h₁ h₂ => ?_), ⟨_, _, he, rfl⟩⟩ (fun o dx h₁ h₂ => ?_) fun h'' tk' st I => ⟨rfl, hret e _ _ st I⟩
  · show un + 1 + 8 < cLine
    omega
  · rw [he] at h₁; cases h₁; cases h₂
  · rw [he] at h₁; cases h₁; cases h₂
/-- an exception with a dict of its own, on its way: its traceback's head, the frames below -/
structure Tr (base h : Heap) (l : List Env) (e : Addr) (C : Value) (dx : Addr) (fl : Value) : Prop where
  stays : base.StaysIn h
  new : base.get? e = none
  frames : h.FunFrames base l
  tb : ∃ oe vs T oT ts, h.get? e = some oe ∧ oe.cls = C ∧ oe.dict = some dx ∧ oe.data = .fields vs ∧ vs[1]? = some (.ref T) ∧ base.get? T = none ∧ T ≠ e ∧ h.get? T = some oT ∧ oT.data = .fields ts ∧ ts[3]? = some fl
theorem Tr.fewer {base h : Heap} {env : Env} {l : List Env} {e : Addr} {C : Value} {dx : Addr} {fl : Value} (x : Tr base h (env :: l) e C dx fl) : Tr base h l e C dx fl := ⟨x.stays, x.new, x.frames.2.2, x.tb⟩
section
variable {M : Model} {A : Around} {E : Value → Shared → Prop} {s : Shared} {base : Heap} {env : Env} {outer l : List Env} {L e dx : Addr} {oe : Obj} {vs : Array Value} {head C fl : Value} {hadNext : Bool} {Q : Unit → Shared → Prop}
theorem tr_entry (hfr : A.frames = some (env :: outer)) (hl : s.heap.FunFrames base (env :: outer)) (hf : env.frame = some L) (he : s.heap.get? e = some oe) (hkb : base.StaysIn s.heap) (hen : base.get? e = none) (hd : oe.data = .fields vs) (hsz : 1 < vs.size) (hdx : oe.dict = some dx)
    (h : ∀ h', Tr base h' (env :: outer) e oe.cls dx (rawInt L) → s.heap.UpToSlots h' → Q () { s with heap := h' }) :
    wpAny M A (do let a ← frameOf env; let pl ← entryPlaceOf L hadNext; let b ← EntryCells.newEntry head a .none (rawInt L) .none pl; setField (.ref e) 1 b) Q E s := by
  have away : e ∉ (env :: outer).filterMap (·.frame) := fun hm => by
    obtain ⟨_, o, ho, hnf⟩ := hl.mem hm
    rw [he] at ho; cases ho; exact hnf vs hd
  refine wpAny_bind (wpAny_frameOf_fun hfr hl hf fun h₁ x₁ => wpAny_bind (wpAny_entryPlaceOf fun pl hpl => ?_))
  unfold EntryCells.newEntry newFields
  refine wpAny_bind (wpAny_newObj_type ?_ (hpl.sizeOk5 _ _ _ _ _))
  have he₁ : h₁.get? e = some oe := (x₁.2.1 e away).trans he
  have kb₁ : base.StaysIn h₁ := fun b o q => (x₁.2.1 b fun hm => by rw [(hl.mem hm).1] at q; cases q).trans (hkb b o q)
  have he₂ := Heap.get?_push_of_some (h := h₁) { cls := .type "traceback", dict := none, data := .fields ([head, .ref L, .none, rawInt L, .none] ++ (if pl.isEmpty then List.replicate 6 Value.none else pl)).toArray } he₁
  refine wpAny_setField he₂ hd hsz ?_
  have hTe : h₁.objs.size ≠ e := Nat.ne_of_gt (Heap.lt_size he₁)
  have hd₃ := Obj.data_mapFields hd (·.setIfInBounds 1 (Value.ref h₁.objs.size))
  have he₃ := Heap.get?_update_self (Obj.mapFields (·.setIfInBounds 1 (Value.ref h₁.objs.size))) he₂ (Obj.isFreed_of_fields hd₃)
  have hT₃ := (Heap.get?_update_other (h₁.push { cls := .type "traceback", dict := none, data := .fields ([head, .ref L, .none, rawInt L, .none] ++ (if pl.isEmpty then List.replicate 6 Value.none else pl)).toArray })
    (Obj.mapFields (·.setIfInBounds 1 (Value.ref h₁.objs.size))) (Ne.symm hTe)).trans (Heap.get?_push_size h₁ rfl)
  have stay : ∀ b o, b ≠ e → h₁.get? b = some o → ((h₁.push { cls := .type "traceback", dict := none, data := .fields ([head, .ref L, .none, rawInt L, .none] ++ (if pl.isEmpty then List.replicate 6 Value.none else pl)).toArray }).update e (Obj.mapFields (·.setIfInBounds 1 (Value.ref h₁.objs.size)))).get? b = some o := fun b o hbe hb => by
    rw [Heap.get?_update_other _ _ (Ne.symm hbe)]; exact Heap.get?_push_of_some _ hb
  have apart : ∀ b o, s.heap.get? b = some o → (∀ vs, o.data ≠ .fields vs) → b ≠ e := fun b o hb hnf q => by
    rw [q, he] at hb; cases hb; exact hnf vs hd
  have up : s.heap.UpToSlots _ := fun b o hb hnf => let ⟨sl, q⟩ := x₁.2.2 b o hb; ⟨sl, stay b _ (apart b o hb hnf) q⟩
  refine h _ ⟨fun b o q => stay b o (fun z => by rw [z, hen] at q; cases q) (kb₁ b o q), hen, hl.of_keeps fun b o hb hnf => let ⟨sl, q⟩ := up b o hb hnf; ⟨_, q, rfl⟩, ?_⟩ up
  have hdd : (Obj.mapFields (·.setIfInBounds 1 (Value.ref h₁.objs.size)) oe).dict = some dx := by
    rw [← hdx]; obtain ⟨_, _, da, _⟩ := oe; cases da <;> rfl
  exact ⟨_, _, h₁.objs.size, _, _, he₃, Obj.cls_mapFields _ _, hdd, hd₃, by simp [hsz], kb₁.fresh, hTe, hT₃, rfl, by first | (simp; done) | (rcases hpl with rfl | ⟨_, _, _, _, _, _, _, rfl⟩ <;> simp)⟩
theorem tr_first (hfr : A.frames = some (env :: outer)) (hl : s.heap.FunFrames base (env :: outer)) (hf : env.frame = some L) (he : s.heap.get? e = some oe) (hkb : base.StaysIn s.heap) (hen : base.get? e = none) (hd : oe.data = .fields vs) (h1 : vs[1]? = some .none) (hdx : oe.dict = some dx)
    (h : ∀ h', Tr base h' (env :: outer) e oe.cls dx (rawInt L) → s.heap.UpToSlots h' → Q () { s with heap := h' }) : wpAny M A (noteFrame (.ref e) env) Q E s := by
  unfold noteFrame
  simp only [hf]
  refine wpAny_bind (wpAny_field he hd h1 ?_)
  rw [if_neg (by decide)]
  exact tr_entry hfr hl hf he hkb hen hd (Array.getElem?_eq_some_iff.mp h1).1 hdx h
theorem tr_next (hfr : A.frames = some (env :: outer)) (hf : env.frame = some L) (x : Tr base s.heap (env :: outer) e C dx .none)
    (h : ∀ h', Tr base h' (env :: outer) e C dx (rawInt L) → s.heap.UpToSlots h' → Q () { s with heap := h' }) : wpAny M A (noteFrame (.ref e) env) Q E s := by
  obtain ⟨kb, hen, hl, oe, vs, T, oT, ts, he, rfl, hdx, hd, h1, hnT, hTe, hT, hdT, h3⟩ := x
  unfold noteFrame
  simp only [hf]
  refine wpAny_bind (wpAny_field he hd h1 ?_)
  rw [if_pos (show (Value.ref T != Value.none) = true from by simp)]
  refine wpAny_bind (wpAny_field hT hdT h3 ?_)
  rw [if_neg (show ¬ ((Value.none == rawInt L) = true) from by simp [rawInt])]
  refine wpAny_bind (wpAny_setField hT hdT (Array.getElem?_eq_some_iff.mp h3).1 ?_)
  have other : ∀ b, b ≠ T → (s.heap.update T (Obj.mapFields (·.setIfInBounds 3 Value.none))).get? b = s.heap.get? b := fun b hb => Heap.get?_update_other _ _ (Ne.symm hb)
  have apart : ∀ b o, s.heap.get? b = some o → (∀ vs, o.data ≠ .fields vs) → b ≠ T := fun b o hb hnf q => by
    rw [q, hT] at hb; cases hb; exact hnf ts hdT
  have up : s.heap.UpToSlots (s.heap.update T (Obj.mapFields (·.setIfInBounds 3 Value.none))) := fun b o hb hnf => ⟨o.slots, (other b (apart b o hb hnf)).trans hb⟩
  refine tr_entry hfr (hl.of_keeps fun b o hb hnf => ⟨o, (other b (apart b o hb hnf)).trans hb, rfl⟩) hf ((other e (Ne.symm hTe)).trans he)
    (fun b o q => (other b fun z => by rw [z, hnT] at q; cases q).trans (kb b o q)) hen hd (Array.getElem?_eq_some_iff.mp h1).1 hdx fun h' x u => h h' x (up.trans u)
theorem tr_again (hf : env.frame = some L) (x : Tr base s.heap l e C dx (rawInt L)) (h : Q () s) : wpAny M A (noteFrame (.ref e) env) Q E s := by
  obtain ⟨kb, hen, hl, oe, vs, T, oT, ts, he, rfl, hdx, hd, h1, hnT, hTe, hT, hdT, h3⟩ := x
  unfold noteFrame
  simp only [hf]
  refine wpAny_bind (wpAny_field he hd h1 ?_)
  rw [if_pos (show (Value.ref T != Value.none) = true from by simp)]
  refine wpAny_bind (wpAny_field hT hdT h3 ?_)
  rw [if_pos (show (rawInt L == rawInt L) = true from by simp)]
  exact wpAny_pure h
theorem tr_land (x : Tr base s.heap l e C dx fl) (h : ∀ h', Tr base h' l e C dx .none → s.heap.UpToSlots h' → Q () { s with heap := h' }) : wpAny M A (setFlight (.ref e) none) Q E s := by
  obtain ⟨kb, hen, hl, oe, vs, T, oT, ts, he, rfl, hdx, hd, h1, hnT, hTe, hT, hdT, h3⟩ := x
  have hsz3 : 3 < ts.size := (Array.getElem?_eq_some_iff.mp h3).1
  have other : ∀ b, b ≠ T → (s.heap.update T (Obj.mapFields (·.setIfInBounds 3 ((none : Option Addr).elim Value.none fun f => rawInt f)))).get? b = s.heap.get? b := fun b hb => Heap.get?_update_other _ _ (Ne.symm hb)
  have apart : ∀ b o, s.heap.get? b = some o → (∀ vs, o.data ≠ .fields vs) → b ≠ T := fun b o hb hnf q => by
    rw [q, hT] at hb; cases hb; exact hnf ts hdT
  have up : ∀ b o, s.heap.get? b = some o → (∀ vs, o.data ≠ .fields vs) → _ := fun b o hb hnf => (other b (apart b o hb hnf)).trans hb
  unfold setFlight
  refine wpAny_bind (wpAny_field he hd h1 ?_)
  rw [if_pos (show (Value.ref T != Value.none) = true from by simp)]
  refine wpAny_setField hT hdT hsz3 (h _ ⟨fun b o q => (other b fun z => by rw [z, hnT] at q; cases q).trans (kb b o q), hen, hl.of_keeps fun b o hb hnf => ⟨o, up b o hb hnf, rfl⟩, ?_⟩ fun b o hb hnf => ⟨o.slots, up b o hb hnf⟩)
  exact ⟨oe, vs, T, _, _, (other e (Ne.symm hTe)).trans he, rfl, hdx, hd, h1, hnT, hTe, Heap.get?_update_self _ hT (Obj.isFreed_of_fields (Obj.data_mapFields hdT _)), Obj.data_mapFields hdT _, by simp [hsz3]⟩
theorem tr_leave (hfr : A.frames = some (env :: outer)) (hl : s.heap.FunFrames base (env :: outer)) (hf : env.frame = some L) (he : s.heap.get? e = some oe) (hkb : base.StaysIn s.heap) (hen : base.get? e = none) (hd : oe.data = .fields vs) (h1 : vs[1]? = some .none) (hdx : oe.dict = some dx)
    (h : ∀ h', Tr base h' outer e oe.cls dx .none → s.heap.UpToSlots h' → Q () { s with heap := h' }) : wpAny M A (leaving env (.ref e)) Q E s :=
  wpAny_bind (tr_first hfr hl hf he hkb hen hd h1 hdx fun h' x u => tr_land (s := { s with heap := h' }) x fun h'' y v => h h'' y.fewer (u.trans v))
end
/-- an exception with a dict of its own that has left a frame; G: the heap as the frame was entered -/
def RaisedD (base G : Heap) (l : List Env) (e : Addr) (C : Value) (mA : Str → Option Value) (h : Heap) : Prop :=
  ∃ B dx oD, base.StaysIn B ∧ (∀ b o, G.get? b = some o → b ∉ l.filterMap (·.frame) → B.get? b = some o) ∧ G.UpToSlots h ∧ Tr B h l e C dx .none ∧ B.get? dx = some oD ∧ (∀ h' : Heap, h'.get? dx = some oD → h'.Ns1 dx mA) ∧ G.get? dx = none ∧ G.get? e = none
section
variable {M : Model} {A A₀ : Around} {E : Value → Shared → Prop} {s' : Shared} {base g g₀ h G : Heap} {outer : List Env} {L a e C : Addr} {m mA : Str → Option Value} {name : Str} {scope : Scope} {cd : Value} {Q : Unit → Shared → Prop}
theorem leave_D {n : Str} {v : Value} (K : Below A base outer g) (F : Fr g L h m) (k : h.StaysIn s'.heap) (I : ExcAt h s'.heap e C mA) (hv : mA n = some v) (hk : scope.kind = .function)
    (hQ : ∀ h', RaisedD base g outer e (.ref C) mA h' → Q () { s' with heap := h' }) :
    wpAny M (A.deeper (envOf name scope L a cd)) (leaving (envOf name scope L a cd) (.ref e)) Q E s' := by
  have F' : Fr g L s'.heap m := Fr.grow F k
  have K' := K.push (name := name) (a := a) (cd := cd) F' hk
  obtain ⟨oe, he, hcl, hnc, hdd⟩ := I.inst
  obtain ⟨oe', a0, he', hdat⟩ := I.data
  obtain rfl := Option.some.inj (he.symm.trans he')
  rcases hdd with ⟨_, z⟩ | ⟨dx, hdx, hne, hns⟩
  · rw [z n] at hv; cases hv
  obtain ⟨oD, es, ep, hD, hDd, hDk, hDu, hDf⟩ := hns
  have hfs : ∀ b ∈ (envOf name scope L a cd :: outer).filterMap (·.frame), base.get? b = none ∧ ∃ o, h.get? b = some o ∧ ∀ vs, o.data ≠ .fields vs := fun b hb => by
    have K₁ := K.push (name := name) (a := a) (cd := cd) F hk
    exact K₁.frames.mem hb
  have hdn : h.get? dx = none := I.dict _ dx he hdx
  have hge : g.get? e = none := kts_none F.keep I.new
  have hgd : g.get? dx = none := kts_none F.keep hdn
  have hbe : base.get? e = none := kts_none K.stays hge
  have hin : ∀ env ∈ (envOf name scope L a cd :: outer), ∀ b, env.frame = some b → b ∈ e :: (envOf name scope L a cd :: outer).filterMap (·.frame) := fun env he b hb => .tail _ (List.mem_filterMap.mpr ⟨env, he, hb⟩)
  have hB : base.StaysIn (hideAll s'.heap (e :: (envOf name scope L a cd :: outer).filterMap (·.frame))) := fun b o q => hideAll_get _ (k _ _ (F.keep _ _ (K.stays b o q))) fun hm => by
    rcases List.mem_cons.mp hm with z | z
    · rw [z, hbe] at q; cases q
    · rw [(hfs b z).1] at q; cases q
  have hG : ∀ b o, g.get? b = some o → b ∉ outer.filterMap (·.frame) → (hideAll s'.heap (e :: (envOf name scope L a cd :: outer).filterMap (·.frame))).get? b = some o := fun b o q nm => hideAll_get _ (F'.keep b o q) fun hm => by
    rcases List.mem_cons.mp hm with z | z
    · rw [z, hge] at q; cases q
    · rcases kts_mem z with z | z
      · rw [z, kts_self F] at q; cases q
      · exact nm z
  have hBd : (hideAll s'.heap (e :: (envOf name scope L a cd :: outer).filterMap (·.frame))).get? dx = some oD := hideAll_get _ hD fun hm => by
    rcases List.mem_cons.mp hm with z | z
    · exact hne z
    · obtain ⟨_, o, ho, _⟩ := hfs dx z
      rw [hdn] at ho; cases ho
  have hBe : (hideAll s'.heap (e :: (envOf name scope L a cd :: outer).filterMap (·.frame))).get? e = none := hideAll_none _ (.head _)
  have hup : g.UpToSlots s'.heap := Heap.UpToSlots.of_keeps F'.keep
  refine tr_leave K'.stack (funFrames_hide K'.frames hin) rfl he (fun b o q => of_hideAll _ q) hBe hdat rfl hdx fun h' x u => ?_
  rw [hcl] at x
  exact hQ h' ⟨_, dx, oD, hB, hG, hup.trans u, x, hBd, fun h'' q => ⟨oD, es, ep, q, hDd, hDk, hDu, hDf⟩, hgd, hge⟩
end
/-- what is known of a caught exception -/
structure ExcHeld (g h : Heap) (e C : Addr) (mA : Str → Option Value) : Prop where
  new : g.get? e = none
  there : ∃ o vs dx, h.get? e = some o ∧ o.cls = .ref C ∧ o.data = .fields vs ∧ o.dict = some dx ∧ h.Ns1 dx mA ∧ g.get? dx = none
section
variable {prog : Program} {w : World} {A₀ : Around} {E : Value → Shared → Prop} {s' : Shared} {base g g₀ G : Heap} {outer : List Env} {L a e C : Addr} {m mA : Str → Option Value} {name : Str} {scope : Scope} {cd : Value}
  {n : Str} {b₀ : Stmt} {suite : List Stmt} {pos np : Pos} {rest : List ExceptHandler} {Q : Flow → Shared → Prop} {KF : Frag}
  {p : Program} {loose : List Str} {mean : ExcName → Option Value} {mg mb : Str → Option Value} {x : Str}
  {nm q : Str} {N : Addr} {bs bm : List Value} {hdct : Bool} {sn : List Str} {sub : List Value} {ab : Bool} {col : Option Bool} {dd : Option Addr} {k0 k1 k2 k3 k5 : Option Value} {newId : String}
theorem caught_D (R : RaisedD base G (envOf name scope L a cd :: outer) e (.ref C) mA s'.heap) (F : Fr g L G m) (K : Below A₀ base outer g) (XB : KF.In base) (TB : Top p loose mean mg mb base)
    (ex : nsIn KF mainGlobals x = some (some (.ref C))) (hC : KF.lookup C = some (excClassObj nm q C N bs bm hdct sn sub ab col dd k0 k1 k2 k3 k5 newId)) (hbase : bm.contains (.type "BaseException") = true)
    (k : ∀ h' g' tk, KtsTurn (outer.filterMap (·.frame)) g g' → Fr g' L h' (fun y => if y = n then some (.ref e) else m y) → ExcHeld g' h' e C mA → Below A₀ base outer g' → KF.In g' → Top p loose mean mg mb g' →
      wpAny (model prog w) ((A₀.deeper (envOf name scope L a cd)).mark (some (.ref e))) (execs (b₀ :: suite) (envOf name scope L a cd))
        (fun f s₄ => wpAny (model prog w) (A₀.deeper (envOf name scope L a cd)) (do bindName (envOf name scope L a cd) n .none; unbindBehindTheSuite (envOf name scope L a cd) n pos) (fun _ s₅ => Q f s₅) E s₄)
        (AsSuiteRaised (model prog w) ((A₀.deeper (envOf name scope L a cd)).mark (some (.ref e))) (envOf name scope L a cd) n pos (notedBy (model prog w) ((A₀.deeper (envOf name scope L a cd)).mark (some (.ref e))) (envOf name scope L a cd) (cameBackBy (model prog w) (A₀.deeper (envOf name scope L a cd)) (envOf name scope L a cd) E)))
        { s' with heap := h', toks := tk })
    (hk : scope.kind = .function) (hlo : (envOf name scope L a cd).kindOf n = some .local) (hx : (envOf name scope L a cd).kindOf x = some .globalImplicit) (hd : (x == ("__debug__" : Str)) = false) :
    wpAny (model prog w) (A₀.deeper (envOf name scope L a cd)) (noteFrame (.ref e) (envOf name scope L a cd))
      (fun _ s₂ => wpAny (model prog w) (A₀.deeper (envOf name scope L a cd)) (setFlight (.ref e) none) (fun _ s₃ =>
        wpAny (model prog w) (A₀.deeper (envOf name scope L a cd)) (handleBy (.ref e) (envOf name scope L a cd) (.ExceptHandler (some (.Name x np)) (some n) (b₀ :: suite) pos :: rest)) Q E s₃) E s₂) E s' := by
  obtain ⟨B, dx, oD, hB, hBG, hsm, hfl, hBd, hBn, hGd, hGe⟩ := R
  refine tr_next (Around.frames_deeper K.stack) rfl hfl fun h₄ x₄ u₄ => ?_
  refine tr_land (s := { s' with heap := h₄ }) x₄ fun h₅ x₅ u₅ => ?_
  have sm₅ := (hsm.trans u₄).trans u₅
  obtain ⟨g₅, T₅, F₅, K₅⟩ := kts_ground K F hBG x₅.stays sm₅
  have X₅ : KF.In g₅ := XB.keeps K₅.stays
  have P₅ : TopRead p loose mg mb g₅ := topRead_of (TB.keeps K₅.stays)
  obtain ⟨oe, vs, T, oT, ts, he, hcl, -⟩ := id x₅.tb
  refine wpAny_handleBy_cons (codeAny_handlers_test (name_K (s := { s' with heap := h₅ }) F₅ X₅ P₅ ex ?_ hk hx hd)) (by intro q; cases q)
  refine wpAny_excMatches_sub_self (F₅.keep _ _ (X₅ _ _ hC)) he hcl hbase (codeAny_handlers_suite_as ?_)
  refine tr_land (s := { s' with heap := h₅ }) x₅ fun h₆ x₆ u₆ => ?_
  have sm₆ := sm₅.trans u₆
  obtain ⟨g₆, T₆, F₆, K₆⟩ := kts_ground K F hBG x₆.stays sm₆
  obtain ⟨oe₆, vs₆, T', oT', ts', he₆, hcl₆, hdx₆, hd₆, -⟩ := id x₆.tb
  have hg6e : g₆.get? e = none := T₆.none_ _ (kts_none F.keep hGe)
  have hg6d : g₆.get? dx = none := T₆.none_ _ (kts_none F.keep hGd)
  have hL : B.get? L = none := by
    obtain ⟨_, ⟨L', _, hf, hn', _⟩, _⟩ := hfl.frames
    obtain rfl : L = L' := Option.some.inj hf
    exact hn'
  have hdL : dx ≠ L := fun z => by rw [z, hL] at hBd; cases hBd
  have hLe : e ≠ L := fun z => by
    obtain ⟨oL, es, ep, h1, h2, _⟩ := F₆.ns
    rw [z, h1] at he₆; cases he₆
    rw [h2] at hd₆; cases hd₆
  refine stN (s := { s' with heap := h₆ }) F₆ (news := [(e, oe₆), (dx, oD)]) (fun q hq => ?_) (fun h₇ F₇ N₇ => ?_) hk hlo
  · rcases List.mem_cons.mp hq with rfl | hq
    · exact ⟨he₆, hLe, hg6e⟩
    · rw [List.mem_singleton.mp hq]; exact ⟨x₆.stays _ _ hBd, hdL, hg6d⟩
  · exact k h₇ g₆ _ T₆ F₇ ⟨hg6e, oe₆, vs₆, dx, (N₇ _ (.head _)).1, hcl₆, hd₆, hdx₆, hBn _ (N₇ _ (.tail _ (.head _))).1, hg6d⟩ K₆ (XB.keeps K₆.stays) (TB.keeps K₆.stays)
end
section
open Builtin Builtin.ObjectAttr
section
variable {prog : Program} {w : World} {A : Around} {E : Value → Shared → Prop} {K : Frag} {C D x dx : Addr} {h : Heap} {g : Array GenState} {d : Drawn} {t : Nat} {os : OsState} {cd : ClassData} {mA : Str → Option Value} {name : Str} {v : Value} {o : Obj}
theorem exc_find {Q : Found → Shared → Prop} (X : K.In h) (hc : clsIn K C = some cd) (hdd : cd.hasDict = true) (hf : findIn K (.ref C) name = some none)
    (hx : h.get? x = some o) (hcl : o.cls = .ref C) (hnc : notCls o = true) (hd : o.dict = some dx) (hn : h.Ns1 dx mA) (hv : mA name = some v) (hq : Q (.value v) ⟨h, g, d, t, os⟩) :
    wpAny (model prog w) A (find (.ref x) (.ref C) name) Q E ⟨h, g, d, t, os⟩ := by
  refine wpAny_bind ((looks_findIn X hf).at (wpAny_bind (wpAny_pure (wpAny_bind (wpAny_pure ?_)))))
  have own : wpAny (model prog w) A (inOwnDict name (.ref x)) (fun a s' => wpAny (model prog w) A (match a with | some v => do rule "getattr.instance-dict"; pure (.value v) | none => do copiedAttributeGuard name (.ref x); byTheClass none none) Q E s') E ⟨h, g, d, t, os⟩ := by
    have go : wpAny (model prog w) A (instanceDict x false) (fun a s' => wpAny (model prog w) A (inDict name a) (fun a s' => wpAny (model prog w) A (match a with | some v => do rule "getattr.instance-dict"; pure (.value v) | none => do copiedAttributeGuard name (.ref x); byTheClass none none) Q E s') E s') E ⟨h, g, d, t, os⟩ := by
      unfold instanceDict
      refine wpAny_bind (wpAny_loadPart hx ?_)
      obtain ⟨oc, odi, oda, osl⟩ := o
      dsimp only at hcl hd
      subst hcl hd
      refine wpAny_bind ((looks_clsIn X hc).at ?_)
      rw [hdd]
      refine wpAny_pure ?_
      show wpAny _ _ (nsGet dx name) _ _ _
      refine wpAny_nsGet hn.ns ?_
      rw [hv]
      exact wpAny_bind (wpAny_rule (wpAny_pure hq))
    refine wpAny_bind (wpAny_bind (wpAny_bind (wpAny_loadPart hx ?_)))
    obtain ⟨oc, odi, oda, osl⟩ := o
    cases oda with
    | cls c => cases hnc
    | _ => exact wpAny_pure go
  exact wpAny_bind own
theorem exc_get {Q : Value → Shared → Prop} {expr : Bool} (X : K.In h) (hc : clsIn K C = some cd) (hm : cd.mro = [.ref C, .ref D, .type "Exception", .type "BaseException", .type "object"]) (hdd : cd.hasDict = true)
    (hga : findIn K (.ref C) "__getattribute__" = some (some (.builtin "BaseException.__getattribute__"))) (hgt : findIn K (.ref C) "__getattr__" = some none) (hf : findIn K (.ref C) name = some none)
    (hx : h.get? x = some o) (hcl : o.cls = .ref C) (hnc : notCls o = true) (hd : o.dict = some dx) (hn : h.Ns1 dx mA) (hv : mA name = some v) (hh : handedOut v = pure v) (hq : Q v ⟨h, g, d, t + 1, os⟩) :
    wpAny (model prog w) A (getAttr (.ref x) name expr) Q E ⟨h, g, d, t, os⟩ := by
  have ht : Looks (model prog w) h (typeOf (.ref x)) (.ref C) := hcl ▸ (Looks.ld hx).andThen .now
  have FB := PySem.F.attrBase_Exception
  have hx2 : (Value.builtin "BaseException.__getattribute__" == Value.builtin "object.__getattribute__") = false := by decide +kernel
  have hx1 : (onTheHeap (Value.ref C) && Value.builtin "BaseException.__getattribute__" == Value.builtin "object.__getattribute__") = false := by rw [hx2]; rfl
  have hx0 : (expr && onTheHeap (Value.builtin "BaseException.__getattribute__")) = false := by cases expr <;> rfl
  unfold getAttr getAttrBy
  refine wpAny_bind (wpAny_mkText (wpAny_holding (wpAny_bind (ht.at (wpAny_bind ((looks_findIn X hga).at ?_))))))
  dsimp only
  rw [hx1]
  show wpAny _ _ (getAttrByItsOwn _ _ _ _ _ _) _ _ _
  unfold getAttrByItsOwn callGetattribute boundAndCalled
  refine wpAny_bind (show wpAny _ _ (typeLookup (.ref C) "__getattr__") _ _ _ from (looks_findIn X hgt).at ?_)
  rw [hx0]
  refine wpAny_bind (wpAny_attempt (wpAny_holding ?_))
  show wpAny _ _ (bindSpecial _ _ >>= _) _ _ _
  rw [FB.ga.bind]
  refine wpAny_bind (wpAny_pure (wpAny_call ?_))
  have hne : cd.mro.isEmpty = false := by rw [hm]; rfl
  have sub : Looks (model prog w) h (isInstance (.ref x) (.type "BaseException")) true := ht.andThen (looks_mroIn X (by unfold mroIn; rw [hc, Option.bind_some, if_neg (by rw [hne]; decide), hm]; rfl))
  refine codeAny_call_builtin FB.ga.plain PySem.F.entry_bexc_ga (@check_slot (model prog w) _ _ _ "BaseException.__getattribute__" "BaseException" "__getattribute__" (.ref x) [.str name _] [] _ (by decide +kernel) (by decide +kernel) sub (PySem.F.args_bexc_ga (.ref x) (.str name _)) ?_)
  show wpAny _ _ («object.__getattribute__» ⟨[.ref x, .str name _], []⟩) _ _ _
  have e0 : ∀ tk : Tok, «object.__getattribute__» ⟨[.ref x, .str name tk], []⟩ = (typeOf (.ref x) >>= fun tp => find (.ref x) tp name >>= fun r => match r with
      | .value v => ret v
      | .bind g a => bindTo g a (.ref x) tp
      | .missing => do
        if tp == .type "module" then
          if ← isOpaqueModuleObj (.ref x) then
            let byTheModulesOwnEntry := match (← stack).drop 1 with
              | (.builtin "module.__getattribute__" ⟨m :: _, _⟩, _) :: _ => m == .ref x
              | _ => false
            if !byTheModulesOwnEntry then unsupported "thirdparty:object.__getattribute__:a-miss-on-an-opaque-module"
        if tp == .type "type" then
          if let some key ← opaqueClassAbove (.ref x) then unsupported s!"thirdparty:{key.toString}.{name.toString}:object.__getattribute__-misses-on-an-opaque-class"
        noSuchAttribute (.ref x) name) := fun tk => rfl
  rw [e0]
  refine wpAny_bind (ht.at (wpAny_bind (exc_find X hc hdd hf hx hcl hnc hd hn hv ?_)))
  refine wpAny_pure ?_
  show wpAny _ _ (handedOut v) _ _ _
  rw [hh]
  exact wpAny_pure hq
end
end
def RaisesC (C : Addr) (E : Value → Shared → Prop) (v : Value) (s₁ : Shared) : Prop :=
  ∃ e oe, v = .ref e ∧ (∃ nm q N bs bm hdct sn sub ab col dd k0 k1 k2 k3 k5 newId, s₁.heap.get? C = some (excClassObj nm q C N bs bm hdct sn sub ab col dd k0 k1 k2 k3 k5 newId) ∧ bm.contains (.type "BaseException") = true) ∧
    s₁.heap.get? e = some oe ∧ oe.cls = .ref C ∧ (∃ a, oe.data = .fields #[a, .none, .none, .none, .bool false, .none]) ∧ E (.ref e) s₁
theorem raise_own {prog : Program} {w : World} {A : Around} {E : Value → Shared → Prop} {s : Shared} {env : Env} {e : PySem.Expr} {pos : Pos} {C : Addr} {Q : Flow → Shared → Prop} (hh : A.handled = none)
    (h : wpAny (model prog w) A (eval e env) (RaisesC C E) E s) : wpAny (model prog w) A (exec (.Raise (some e) none pos) env) Q E s := by
  show wpAny _ A (do standAt pos; raiseStmt env (some (do let v ← eval e env; standAt pos; pure v)) none) Q E s
  refine wpAny_bind (wpAny_standAt ?_)
  refine raise_made' (C := C) hh (wpAny_bind (wpAny_mono h (fun v s₁ h₁ => wpAny_bind (wpAny_standAt (wpAny_pure h₁))) fun _ _ x => x))
set_option maxHeartbeats 2000000 in
theorem from_text_bad (w : World) (x : Str) (tx : Tok) (n p : Nat) : ∀ (dp un : Nat) (gd : Option (List Code)) (cn : Str) (cs : Scope) (a : Addr) (ccd : Value) (cl : List (Str × Addr)) (outer : List Env) (A₀ : Around) (base h₀ : Heap) (L : Addr) (m : Str → Option Value) (loose : List Str) (mean : ExcName → Option Value) (mg mb : Str → Option Value) (s : Shared) (Q E : Value → Shared → Prop),
    Below A₀ base outer h₀ → Fr h₀ L s.heap m → (hd.heap_39 w.params).In h₀ → Top hd.view_39 loose mean mg mb h₀ → cs.kind = .function → dp + 20 < recursionLimit → un + 8 * 20 < cLine → BadAt x n p ∧ n ≤ 100 →
    (∀ e h' tk' t1 t2 v, RaisedD base s.heap (envX cn cs L a ccd cl :: outer) e (.ref 45) (excMap (.str (Str.ofString "bad_digit") t1) (.int p t2) v) h' → E (.ref e) { s with heap := h', toks := tk' }) →
    wpAny (model PySem.Challenge.rw_nn0303_01.row.prog w) (ktrTop dp un gd cn cs L a ccd cl outer) (call (.ref 181) [.str x tx]) Q E s := by
  have hn : LwNames [Str.ofString "text"] := trivial
  have hlo : LwLoop := trivial
  k_fill
  intro dp un gd cn cs a ccd cl outer A₀ base h₀ L m loose mean mg mb s Q E B F X T hk hdp hun hpre hret
  k_dflt (refine' call_G ?k0 ?k1 ?k2 ?k3 ?k5 ?kA ?kF ?kK ?k6 ?k7 ?k8 ?k9 ?kB ?_ ?c2 ?c3 ?c4 ?c5; ((case kA => exact rfl); (case kF => exact rfl); (case kK => assumption); (case k0 => with_reducible assumption); (case k1 => k_asm); (case k2 => k_asm); (case k3 => k_asm); (case k5 => k_asm); (case k6 => k_is); (case k7 => k_is); (case k8 => ktr_room); (case k9 => first | exact BindsTo.of_eq rfl | exact binds_K (by k_in) rfl (by k_is) rfl rfl rfl); (case c5 => decide); (case kB => exact locs rfl); (case c2 => exact rfl); (case c3 => exact rfl); (case c4 => exact rfl)); k_whole)
  intro L' h' tk₁ F' N' B' X' T'
  try dsimp only
  try k_fold
  obtain ⟨⟨hx, hp, hbad, hS⟩, hl⟩ := hpre
  k_steps
  refine lw_go ?_
  clear hl9
  have hb := down_n x.length (by omega)
  refine' lw_down (D := List Value × Nat × Option Value) (n := x.length) (foundUpd _) (fun d => [(_, W.listOf d.1.toArray d.2.1)]) (fun j d => j + p + 1 ≤ n ∧ ∃ bs : List Int, bs.length = j ∧ IntsAre d.1 bs) ([], 0, none) rfl (by assumption) hb.1 hb.2 (by assumption) (by assumption) (upd1_start (by exact rfl)) (fun _ => rfl) ⟨by omega, [], rfl, .nil⟩ ?turn ?done
  case turn =>
    rintro j t ⟨ds, dn, d1⟩ h tk own hj hI hoff F1 N1
    dsimp only at hI
    obtain ⟨hjp, bs, hbl, hI⟩ := hI
    dsimp only [List.map] at hoff
    dsimp only [List.cons_append, List.nil_append] at N1
    have hlen := IntsAre.length hI
    have hi : ((x.length - 1 - j : Nat) : Int) = (x.length : Int) - 1 - j := by omega
    try k_fold
    k_steps
    refine lw_go ?_
    refine find_gen ?_
    intro k9 hk9
    have hk8 : place x ((x.length : Int) - 1 - j) = k9 := hk9
    by_cases hq : x.length - 1 - j = p
    · have hk7 : k9 = -1 := by rw [← hk8, ← hi, hq]; exact hbad
      subst hk7
      clear hk8 hk9
      k_with "exec Raise some none" => (k_here; (with_reducible refine raise_own (C := 45) rfl ?_); k_whole)
      k_steps
      have hpj : (x.length : Int) - 1 - j = p := by omega
      rw [hpj]
      rename Fr s.heap L' _ _ => F2
      refine' make_spec w _ _ _ _ _ _ _ _ _ _ _ _ _ _ _ _ _ _ _ _ _ _ _ _ B' F2 X' T' rfl ?_ ?_ ?_
      · show dp + 1 + 2 < _
        omega
      · show un + 3 + 16 < _
        omega
      · intro e h1 tk1 st1 I1
        obtain ⟨oe, he, hcl, hnc, hdd⟩ := id I1.inst
        obtain ⟨oe', a0, he', hdat⟩ := id I1.data
        obtain rfl := Option.some.inj (he.symm.trans he')
        refine ⟨e, oe, rfl, ⟨_, _, _, _, _, _, _, _, _, _, _, _, _, _, _, _, _, st1 _ _ (F2.keep _ _ (X' _ _ (by k_is))), (by rfl)⟩, he, hcl, ⟨a0, hdat⟩, ?_⟩
        exact leave_D (n := Str.ofString "kind") (v := .str (Str.ofString "bad_digit") _) B' F2 st1 I1 (by exact rfl) rfl fun h2 R => hret _ _ _ _ _ _ R
    · have hp := hS (x.length - 1 - j) (by omega) (by omega)
      rw [hi, hk8] at hp
      obtain ⟨hp0, hp6, hm0, hm3⟩ := hp
      clear hk8 hk9
      k_steps
      refine lw_go ?_
      refine item_anyT (isTup_get (News.get (by k_asm) (by k_mem))) (.cons _ _ (.cons _ _ (.cons _ _ (.cons _ _ (.cons _ _ (.cons _ _ (.cons _ _ .nil))))))) (by omega) (by simp only [List.length_cons, List.length_nil]; omega) (by omega) ?_
      intro t8
      k_steps
      refine' turn_next (D := List Value × Nat × Option Value) (ds ++ [_], dn + 1, _) (by assumption) (by assumption) (fun z hz => upd_one (a := Str.ofString "found") hz) (led_in9 (congrArg (fun x => W.listOf x _) (List.push_toArray _ _).symm)) (fun p hp => .tail _ (.tail _ hp)) ?_
      show j + 1 + p + 1 ≤ n ∧ ∃ bs : List Int, bs.length = j + 1 ∧ IntsAre (ds ++ [_]) bs
      exact ⟨by omega, _, (by rw [List.length_append, hbl]; rfl), ints_snoc hI⟩
  case done =>
    rintro ⟨ds, dn, d1⟩ u h tk hI F1 N1
    exact absurd hI.1 (by omega)
/-- behind a caught exception: the caller's frame has new slots, all else stands -/
theorem back_turn {h₀ h g2 h9 : Heap} {L L' a : Addr} {m m9 : Str → Option Value} {news : List (Addr × Obj)} {p : Addr × Obj} {cn : Str} {cs : Scope} {ccd : Value} {cl : List (Str × Addr)} (F : Fr h₀ L h m) (N : News h₀ L h news)
    (T : KtsTurn ([envX cn cs L a ccd cl].filterMap (·.frame)) h g2) (F9 : Fr g2 L' h9 m9) (N9 : News g2 L' h9 [p]) : Fr h₀ L h9 m ∧ News h₀ L h9 (p :: news) := by
  obtain ⟨oL, es, ep, hL, hLd, hLk, hLf⟩ := F.ns
  obtain ⟨sl, hs⟩ := T.up hL
  have mem : ∀ b, b ∈ [envX cn cs L a ccd cl].filterMap (·.frame) → b = L := fun b hb => by
    exact List.mem_singleton.mp hb
  have keep : ∀ b o, h₀.get? b = some o → h9.get? b = some o := fun b o e => F9.keep b o (T.other b o (F.keep b o e) fun z => by
    rw [mem b z, kts_self F] at e; cases e)
  refine ⟨⟨⟨_, es, ep, F9.keep _ _ hs, hLd, hLk, hLf⟩, keep, F.above⟩, fun q hq => ?_⟩
  rcases List.mem_cons.mp hq with rfl | hq
  · obtain ⟨a1, _, a3⟩ := N9 _ (.head _)
    refine ⟨a1, fun z => (by rw [z, hs] at a3; cases a3), ?_⟩
    cases z : h₀.get? q.1 with
    | none => rfl
    | some o =>
      obtain ⟨sl', hs'⟩ := T.up (F.keep _ _ z)
      rw [hs'] at a3; cases a3
  · obtain ⟨a1, a2, a3⟩ := N q hq
    exact ⟨F9.keep _ _ (T.other _ _ a1 fun z => a2 (mem _ z)), a2, a3⟩
set_option maxHeartbeats 2000000 in
theorem read_spec (w : World) (x : Str) (tx : Tok) (n p : Nat) : ∀ (dp un : Nat) (gd : Option (List Code)) (cn : Str) (cs : Scope) (a : Addr) (ccd : Value) (cl : List (Str × Addr)) (A₀ : Around) (h₀ : Heap) (L : Addr) (m : Str → Option Value) (news : List (Addr × Obj)) (loose : List Str) (mean : ExcName → Option Value) (mg mb : Str → Option Value) (s : Shared) (Q E : Value → Shared → Prop),
    Below A₀ h₀ [] h₀ → Fr h₀ L s.heap m → (hd.heap_39 w.params).In h₀ → News h₀ L s.heap news → Top hd.view_39 loose mean mg mb h₀ → cs.kind = .function → dp + 40 < recursionLimit → un + 8 * 40 < cLine → BadAt x n p ∧ n ≤ 100 →
    (∀ r t1 t2 h' tk', Fr h₀ L h' m → News h₀ L h' ((r, tupObj [.str (Str.ofString "bad_digit") t1, .int p t2]) :: news) → Q (.ref r) { s with heap := h', toks := tk' }) →
    wpAny (model PySem.Challenge.rw_nn0303_01.row.prog w) (ktrTop dp un gd cn cs L a ccd cl []) (call (.ref 242) [.str x tx]) Q E s := by
  have hn : LwNames [Str.ofString "text"] := trivial
  k_fill
  intro dp un gd cn cs a ccd cl A₀ h₀ L m news loose mean mg mb s Q E B F X N T hk hdp hun hpre hret
  k_dflt (refine' call_G ?k0 ?k1 ?k2 ?k3 ?k5 ?kA ?kF ?kK ?k6 ?k7 ?k8 ?k9 ?kB ?_ ?c2 ?c3 ?c4 ?c5; ((case kA => exact rfl); (case kF => exact rfl); (case kK => assumption); (case k0 => with_reducible assumption); (case k1 => k_asm); (case k2 => k_asm); (case k3 => k_asm); (case k5 => k_asm); (case k6 => k_is); (case k7 => k_is); (case k8 => ktr_room); (case k9 => first | exact BindsTo.of_eq rfl | exact binds_K (by k_in) rfl (by k_is) rfl rfl rfl); (case c5 => decide); (case kB => exact locs rfl); (case c2 => exact rfl); (case c3 => exact rfl); (case c4 => exact rfl)); k_whole)
  intro L' h' tk₁ F' N' B' X' T'
  try dsimp only
  try k_fold
  k_steps
  refine' from_text_bad w x tx n p _ _ _ _ _ _ _ _ _ _ _ _ _ _ _ _ _ _ _ _ _ B' F' X' T' rfl ?_ ?_ hpre ?_
  · show dp + 1 + 20 < _
    omega
  · show un + 3 + 160 < _
    omega
  intro e h1 tk1 t1 t2 v R
  refine caught_D R F' B' X T (by k_is) (by k_is) (by rfl) ?_ (by rfl) (by rfl) (by rfl) (by decide)
  intro h2 g2 tk2 T2 F2 I2 B2 X2 P2
  obtain ⟨hge, oe, vse, dx, he, hcl, hdat, hdx, hns, hgd⟩ := I2
  have N2 : News g2 L' h2 [] := News.nil
  have hnc : notCls oe = true := by unfold notCls; rw [hdat]
  k_with "getAttr ref" => (k_here; k_dflt (refine' exc_get (K := hd.heap_39 w.params) (D := 32) (X2.keeps (by assumption : Fr g2 L' _ _).keep) (by k_is) rfl rfl (by k_is) (by k_is) (by k_is) he hcl hnc hdx hns (by rfl) (by rfl) ?_; k_whole))
  try dsimp only
  try k_fold
  k_steps
  obtain ⟨f9, n9⟩ := back_turn F N T2 (by assumption) (by assumption)
  exact hret _ _ _ _ _ f9 n9
theorem use_read {w : World} {x : Str} {tx : Tok} {n p : Nat} {dp un : Nat} {gd : Option (List Code)} {cn : Str} {cs : Scope} {a : Addr} {ccd : Value} {cl : List (Str × Addr)} {A₀ : Around} {h₀ : Heap} {L : Addr} {m : Str → Option Value} {news : List (Addr × Obj)} {loose : List Str} {mean : ExcName → Option Value} {mg mb : Str → Option Value} {s : Shared} {Q E : Value → Shared → Prop}
    (B : Below A₀ h₀ [] h₀) (F : Fr h₀ L s.heap m) (X : (hd.heap_39 w.params).In h₀) (N : News h₀ L s.heap news) (T : Top hd.view_39 loose mean mg mb h₀) (hk : cs.kind = .function) (hdp : dp + 40 < recursionLimit) (hu : un + 8 * 40 < cLine) (hp : BadAt x n p ∧ n ≤ 100)
    (ret : ∀ r t1 t2 h' tk', Fr h₀ L h' m → News h₀ L h' ((r, tupObj [.str (Str.ofString "bad_digit") t1, .int p t2]) :: news) → Q (.ref r) { s with heap := h', toks := tk' }) :
    wpAny (model PySem.Challenge.rw_nn0303_01.row.prog w) (ktrTop dp un gd cn cs L a ccd cl []) (call (.ref 242) [.str x tx]) Q E s :=
  read_spec w x tx n p _ _ _ _ _ _ _ _ _ _ _ _ _ _ _ _ _ _ _ _ B F X N T hk hdp hu hp ret
section
variable {w : World} {need : Nat} {f : Addr} {vs : List Value} {pre : Heap → Prop} {dp un : Nat} {gd : Option (List Code)} {cn : Str} {cs : Scope} {a : Addr} {ccd : Value} {cl : List (Str × Addr)} {outer : List Env} {A₀ : Around} {base h₀ : Heap} {L : Addr} {m : Str → Option Value} {news : List (Addr × Obj)} {loose : List Str} {mean : ExcName → Option Value} {mg mb : Str → Option Value} {s : Shared} {Q E : Value → Shared → Prop}
theorem use_none (C : Spec w need f vs pre (fun _ _ v => v = .none)) (B : Below A₀ base outer h₀) (F : Fr h₀ L s.heap m) (X : (hd.heap_39 w.params).In h₀) (N : News h₀ L s.heap news) (T : Top hd.view_39 loose mean mg mb h₀) (hk : cs.kind = .function) (hdp : dp + need < recursionLimit) (hu : un + 8 * need < cLine) (hp : pre s.heap)
    (ret : ∀ h' tk', Fr h₀ L h' m → News h₀ L h' news → Q .none { s with heap := h', toks := tk' }) :
    wpAny (model PySem.Challenge.rw_nn0303_01.row.prog w) (ktrTop dp un gd cn cs L a ccd cl outer) (call (.ref f) vs) Q E s :=
  use_any C B F X N T hk hdp hu hp fun v h' tk' _ F' N' p => by cases (p : v = .none); exact ret h' tk' F' N'
end
theorem Spec.weaken {w : World} {need : Nat} {f : Addr} {vs : List Value} {pre pre' : Heap → Prop} {post post' : Heap → Heap → Value → Prop} (C : Spec w need f vs pre post) (h1 : ∀ h, pre' h → pre h) (h2 : ∀ h h' v, pre' h → post h h' v → post' h h' v) : Spec w need f vs pre' post' := by
  intro dp un gd cn cs a ccd cl outer A₀ base h₀ L m loose mean mg mb s Q E B F X T hk hdp hu hp hret
  exact C dp un gd cn cs a ccd cl outer A₀ base h₀ L m loose mean mg mb s Q E B F X T hk hdp hu (h1 _ hp) fun v h' tk' k q => hret v h' tk' k (h2 _ _ _ hp q)
theorem to_int_some (w : World) (v : Addr) (n x z : Int) (tx ty tz : Tok) (sg : Bool) : Spec w 2 111 [.ref v, .bool sg] (fun h => h.get? v = some (tupObj (t3 n x z tx ty tz)) ∧ z = 0 ∧ 1 ≤ n ∧ n ≤ 1000) (IntIs (toInt n x sg)) :=
  (to_int_spec w v n x z tx ty tz sg).weaken (fun h p => ⟨p.1, p.2.2⟩) fun h h' v p q => q.elim (fun q => absurd p.2.1 q.1) fun q => q.2
theorem to_int_none (w : World) (v : Addr) (n x z : Int) (tx ty tz : Tok) (sg : Bool) : Spec w 2 111 [.ref v, .bool sg] (fun h => h.get? v = some (tupObj (t3 n x z tx ty tz)) ∧ z ≠ 0 ∧ 1 ≤ n ∧ n ≤ 1000) (fun _ _ v => v = .none) :=
  (to_int_spec w v n x z tx ty tz sg).weaken (fun h p => ⟨p.1, p.2.2⟩) fun h h' v p q => q.elim (fun q => q.2) fun q => absurd q.1 p.2.1
theorem number_some (w : World) (r : Addr) (vs : List Value) (bs : List Int) (sg : Bool) : Spec w 2 230 [.ref r, .bool sg] (fun h => h.IsList r vs.toArray ∧ IntsAre vs bs ∧ Codes bs ∧ (high bs : Int) = 0 ∧ bs.length ≤ 2000 ∧ 1 ≤ bs.length) (IntIs (toInt bs.length (low bs) sg)) :=
  (number_spec w r vs bs sg).weaken (fun h p => ⟨p.1, p.2.1, p.2.2.1, p.2.2.2.2⟩) fun h h' v p q => q.elim (fun q => absurd p.2.2.2.1 q.1) fun q => q.2
theorem number_none (w : World) (r : Addr) (vs : List Value) (bs : List Int) (sg : Bool) : Spec w 2 230 [.ref r, .bool sg] (fun h => h.IsList r vs.toArray ∧ IntsAre vs bs ∧ Codes bs ∧ (high bs : Int) ≠ 0 ∧ bs.length ≤ 2000 ∧ 1 ≤ bs.length) (fun _ _ v => v = .none) :=
  (number_spec w r vs bs sg).weaken (fun h p => ⟨p.1, p.2.1, p.2.2.1, p.2.2.2.2⟩) fun h h' v p q => q.elim (fun q => q.2) fun q => absurd q.1 p.2.2.2.1
theorem runs_toks {M : Model} {Γ : Ctx} {p : Pos} {t : Sem Fin} {fs : List Frame} {s s' : Shared} {e : End} (h : Runs M Γ p t fs s e s') : s.toks ≤ s'.toks := by
  induction h <;> first | exact Nat.le_refl _ | assumption | exact Nat.le_trans ‹_› ‹_› | (simp only at *; omega)
theorem wakes_toks {M : Model} {Γ : Ctx} {p : Pos} {g : Nat} {r : Resume} {s s' : Shared} {x : GenResult} (h : Wakes M Γ p g r s x s') : s.toks ≤ s'.toks := by
  unfold Wakes at h
  split at h
  · exact h.elim
  · split at h
    · obtain ⟨_, _, k, _, _, rfl⟩ := h
      have q := runs_toks k; simp only [Shared.setGen] at q ⊢; exact q
    · obtain ⟨_, rfl⟩ := h
      exact Nat.le_refl _
    · obtain ⟨_, rfl⟩ := h
      exact Nat.le_refl _
  · obtain ⟨_, _, k, _, _, rfl⟩ := h
    have q := runs_toks k; simp only [Shared.setGen] at q ⊢; exact q
  · obtain ⟨_, rfl⟩ := h
    exact Nat.le_refl _
  · obtain ⟨_, rfl⟩ := h
    exact Nat.le_refl _
theorem wp_toks {α : Type} {M : Model} {Γ : Ctx} {t : Sem α} {Q : α → Pos → Shared → Prop} {E : Value → Pos → Shared → Prop} (n : Nat) {p : Pos} {s : Shared} (hn : n ≤ s.toks)
    (h : Sem.wp M Γ t (fun a p s' => n ≤ s'.toks → Q a p s') (fun e p s' => n ≤ s'.toks → E e p s') p s) : Sem.wp M Γ t Q E p s := by
  induction t generalizing p s <;> simp only [Sem.wp] at h ⊢
  all_goals first
    | exact h hn
    | (rename_i ih; exact ih _ hn h)
    | (rename_i ih; exact ih _ (Nat.le_succ_of_le hn) h)
    | (rename_i ih; obtain ⟨o, h1, h2⟩ := h; exact ⟨o, h1, ih _ hn h2⟩)
    | (rename_i ih; obtain ⟨h1, h2⟩ := h; exact ⟨h1, ih _ hn h2⟩)
    | (rename_i ih; obtain ⟨r, s', h1, h2⟩ := h; exact ⟨r, s', h1, ih _ (Nat.le_trans hn (runs_toks h1)) h2⟩)
    | (rename_i ih; obtain ⟨r, s', h1, h2⟩ := h; exact ⟨r, s', h1, ih _ (Nat.le_trans hn (wakes_toks h1)) h2⟩)
    | exact h
theorem wpAny_toks {α : Type} {M : Model} {A : Around} {t : Sem α} {Q : α → Shared → Prop} {E : Value → Shared → Prop} {s : Shared}
    (h : wpAny M A t (fun v s' => s.toks ≤ s'.toks → Q v s') (fun e s' => s.toks ≤ s'.toks → E e s') s) : wpAny M A t Q E s :=
  fun Γ p hΓ => wp_toks s.toks (Nat.le_refl _) (h Γ p hΓ)
section
variable {w : World} {need : Nat} {f : Addr} {vs : List Value} {pre : Heap → Prop} {dp un : Nat} {gd : Option (List Code)} {cn : Str} {cs : Scope} {a : Addr} {ccd : Value} {cl : List (Str × Addr)} {outer : List Env} {A₀ : Around} {base h₀ : Heap} {L : Addr} {m : Str → Option Value} {news : List (Addr × Obj)} {loose : List Str} {mean : ExcName → Option Value} {mg mb : Str → Option Value} {s : Shared} {Q E : Value → Shared → Prop}
theorem use_strT {x : Str} (C : Spec w need f vs pre (StrIs x)) (B : Below A₀ base outer h₀) (F : Fr h₀ L s.heap m) (X : (hd.heap_39 w.params).In h₀) (N : News h₀ L s.heap news) (T : Top hd.view_39 loose mean mg mb h₀) (hk : cs.kind = .function) (hdp : dp + need < recursionLimit) (hu : un + 8 * need < cLine) (hp : pre s.heap)
    (ret : ∀ t h' tk', s.toks ≤ tk' → Fr h₀ L h' m → News h₀ L h' news → Q (.str x t) { s with heap := h', toks := tk' }) :
    wpAny (model PySem.Challenge.rw_nn0303_01.row.prog w) (ktrTop dp un gd cn cs L a ccd cl outer) (call (.ref f) vs) Q E s :=
  wpAny_toks (wpAny_mono (use_str C B F X N T hk hdp hu hp fun t h' tk' F' N' g => ret t h' tk' g F' N') (fun _ _ q => q) fun _ _ q _ => q)
theorem use_tupT {x y z : Int} (C : Spec w need f vs pre (TupIs x y z)) (B : Below A₀ base outer h₀) (F : Fr h₀ L s.heap m) (X : (hd.heap_39 w.params).In h₀) (N : News h₀ L s.heap news) (T : Top hd.view_39 loose mean mg mb h₀) (hk : cs.kind = .function) (hdp : dp + need < recursionLimit) (hu : un + 8 * need < cLine) (hp : pre s.heap)
    (ret : ∀ r tx ty tz h' tk', s.toks ≤ tk' → Fr h₀ L h' m → News h₀ L h' ((r, tupObj (t3 x y z tx ty tz)) :: news) → AllNe r news → Q (.ref r) { s with heap := h', toks := tk' }) :
    wpAny (model PySem.Challenge.rw_nn0303_01.row.prog w) (ktrTop dp un gd cn cs L a ccd cl outer) (call (.ref f) vs) Q E s :=
  wpAny_toks (wpAny_mono (use_tup C B F X N T hk hdp hu hp fun r tx ty tz h' tk' F' N' l g => ret r tx ty tz h' tk' g F' N' l) (fun _ _ q => q) fun _ _ q _ => q)
theorem lw_hopT {M : Model} {A : Around} {E : Value → Shared → Prop} {s : Shared} {env : Env} {st : Stmt} {rest : List Stmt} {Q : Flow → Shared → Prop} {h₀ : Heap} {L : Addr} {m : Str → Option Value} {news : List (Addr × Obj)} (_ : Fr h₀ L s.heap m) (_ : News h₀ L s.heap news)
    (h : wpAny M A (exec st env) (LwEnds h₀ L m news s) E s)
    (k : ∀ h' tk', s.toks ≤ tk' → Fr h₀ L h' m → News h₀ L h' news → wpAny M A (execs rest env) Q E { s with heap := h', toks := tk' }) : wpAny M A (execs (st :: rest) env) Q E s :=
  wpAny_execs_cons (wpAny_toks (wpAny_mono h (fun f s' p g => by obtain ⟨rfl, h', tk', rfl, F, N⟩ := p; exact k h' tk' g F N) fun _ _ q _ => q))
theorem replaceT {prog : Program} {A : Around} {E : Value → Shared → Prop} {s : Shared} {x y z : Str} {t u v : Tok} {Q : Value → Shared → Prop} (hu : u ≠ 0) (hv : v ≠ 0) (huv : u ≠ v) (hyz : (y == z) = false) (hx : x.length ≤ 1048576) (hz : z.length ≤ 14)
    (hq : ∀ t' k, s.toks ≤ k → Q (.str (Txt.replace x y z) t') { s with toks := k }) : wpAny (model prog w) A (call (.builtin "str.replace") [.str x t, .str y u, .str z v]) Q E s :=
  wpAny_toks (wpAny_mono (SC.replaceW hu hv huv hyz hx hz fun t' k g => hq t' k g) (fun _ _ q => q) fun _ _ q _ => q)
end
theorem says_len {x : Str} {bs : List Int} (h : Says x bs) : x.length = bs.length := h.1
theorem textOf_len {bs : List Int} (h : Codes bs) : (textOf bs).length = bs.length := says_len (says_text h)
theorem odd1_len {bs : List Int} (h : Codes bs) : (PySem.Txt.replace (textOf bs) (Str.ofString "z") (Str.ofString "?")).length = bs.length := by
  rw [lit_z, lit_q, len_cps, replace_char, textOf_cps h]; simp
theorem oddOf_len {bs : List Int} (h : Codes bs) : (oddOf bs).length = bs.length := says_len (says_odd h)
theorem bad_text {od : Str} {one : List Int} (C1 : Codes one) (hx : od.cps.toList = one.reverse.map sc2) {k : Nat} (hk : k < one.length) {cnt : Int} (h1 : 1 ≤ cnt) (h2 : cnt ≤ 4) :
    BadAt (Txt.slice od none (some (k : Int)) ++ Txt.item (Str.ofString "2b_ ") (cnt - 1) ++ Txt.slice od (some ((k : Int) + 1)) none) one.length k := by
  have hl : od.cps.toList.length = one.length := by rw [hx]; simp
  have e1 : (Txt.slice od none (some (k : Int))).cps.toList = od.cps.toList.take k := by
    rw [eq_of_beq (slice_closes_to (x := od) (j := k) ⟨by omega, by omega⟩)]; simp
  have e2 : (Txt.slice od (some ((k : Int) + 1)) none).cps.toList = od.cps.toList.drop (k + 1) := by
    rw [eq_of_beq (slice_closes_from (x := od) (i := (k : Int) + 1) ⟨by omega, by omega⟩), show ((k : Int) + 1).toNat = k + 1 by omega]
    show ((od.cps.toList.drop (k + 1)).take _).toArray.toList = _
    rw [List.toList_toArray]
    exact List.take_of_length_le (by rw [List.length_drop]; omega)
  obtain ⟨b, hb, hbb⟩ : ∃ b, Txt.item (Str.ofString "2b_ ") (cnt - 1) = ⟨#[b]⟩ ∧ Txt.find (Str.ofString "01zxZX?") ⟨#[b]⟩ = -1 := by
    obtain rfl | rfl | rfl | rfl : cnt = 1 ∨ cnt = 2 ∨ cnt = 3 ∨ cnt = 4 := by omega
    · exact ⟨50, by decide +kernel, by decide +kernel⟩
    · exact ⟨98, by decide +kernel, by decide +kernel⟩
    · exact ⟨95, by decide +kernel, by decide +kernel⟩
    · exact ⟨32, by decide +kernel, by decide +kernel⟩
  refine bad_of C1 hk hbb ?_
  rw [Str.cps_append, Str.cps_append, Array.toList_append, Array.toList_append, e1, e2, hb, hx]
theorem truth1 {bs : List Int} (h : (bs.any fun x => x == 1) = true) : truthOf bs = 1 := if_pos (any_mem.mp h)
theorem truth2 {bs : List Int} (h : (bs.any fun x => x == 1) = false) (h2 : (bs.any fun x => x == 2) = true) : truthOf bs = 3 := (if_neg (any_not.mp h)).trans (if_pos (.inl (any_mem.mp h2)))
theorem truth3 {bs : List Int} (h : (bs.any fun x => x == 1) = false) (h2 : (bs.any fun x => x == 3) = true) : truthOf bs = 3 := (if_neg (any_not.mp h)).trans (if_pos (.inr (any_mem.mp h2)))
theorem truth0 {bs : List Int} (h : (bs.any fun x => x == 1) = false) (h2 : (bs.any fun x => x == 2) = false) (h3 : (bs.any fun x => x == 3) = false) : truthOf bs = 0 := (if_neg (any_not.mp h)).trans (if_neg fun q => q.elim (any_not.mp h2) (any_not.mp h3))
theorem known2 {bs : List Int} (h : Codes bs) (a : (bs.any fun x => x == 2) = true) : (!(bs.any fun x => x == 2)) = decide (high bs = 0) := by
  rw [a]; exact (decide_eq_false fun q => high_not h (.inl rfl) a (by omega)).symm
theorem known3 {bs : List Int} (h : Codes bs) (a : (bs.any fun x => x == 2) = false) : (!(bs.any fun x => x == 3)) = decide (high bs = 0) := by
  cases b : (bs.any fun x => x == 3)
  · exact (decide_eq_true (by have := (plain_codes h a b).2; omega)).symm
  · exact (decide_eq_false fun q => high_not h (.inr rfl) b (by omega)).symm
theorem ends_put {h₀ h h' : Heap} {L : Addr} {m : Str → Option Value} {news news' : List (Addr × Obj)} {s : Shared} {tk tk' : Nat} {x : Str} {v v' : Value} (F : Fr h₀ L h' (fun y => if y = x then some v' else m y)) (N : News h₀ L h' news') (e : v' = v) (hs : ∀ p ∈ news, p ∈ news') :
    LwEnds h₀ L (fun y => if y = x then some v else m y) news { s with heap := h, toks := tk } .next { s with heap := h', toks := tk' } := ⟨rfl, h', tk', rfl, e ▸ F, fun p hp => N p (hs p hp)⟩
theorem lw_hopP {M : Model} {A : Around} {E : Value → Shared → Prop} {s : Shared} {env : Env} {st : Stmt} {rest : List Stmt} {Q : Flow → Shared → Prop} {h₀ : Heap} {L : Addr} {m : Str → Option Value} {news : List (Addr × Obj)} (x : Str) (v : Value) (_ : Fr h₀ L s.heap m) (_ : News h₀ L s.heap news)
    (h : wpAny M A (exec st env) (LwEnds h₀ L (fun y => if y = x then some v else m y) news s) E s)
    (k : ∀ h' tk', Fr h₀ L h' (fun y => if y = x then some v else m y) → News h₀ L h' news → wpAny M A (execs rest env) Q E { s with heap := h', toks := tk' }) : wpAny M A (execs (st :: rest) env) Q E s :=
  wpAny_execs_cons (wpAny_mono h (fun f s' p => by obtain ⟨rfl, h', tk', rfl, F, N⟩ := p; exact k h' tk' F N) fun _ _ q => q)
/-- where a statement that names a number ends -/
def LwIntEnds (h₀ : Heap) (L : Addr) (m : Str → Option Value) (x : Str) (news : List (Addr × Obj)) (s : Shared) (f : Flow) (s' : Shared) : Prop :=
  ∃ z t, LwEnds h₀ L (fun y => if y = x then some (.int z t) else m y) news s f s'
theorem ends_int {h₀ h h' : Heap} {L : Addr} {m : Str → Option Value} {news news' : List (Addr × Obj)} {s : Shared} {tk tk' : Nat} {x : Str} {z : Int} {t : Tok} (F : Fr h₀ L h' (fun y => if y = x then some (.int z t) else m y)) (N : News h₀ L h' news') (hs : ∀ p ∈ news, p ∈ news') :
    LwIntEnds h₀ L m x news { s with heap := h, toks := tk } .next { s with heap := h', toks := tk' } := ⟨z, t, ends_of F N hs⟩
theorem lw_hopI {M : Model} {A : Around} {E : Value → Shared → Prop} {s : Shared} {env : Env} {st : Stmt} {rest : List Stmt} {Q : Flow → Shared → Prop} {h₀ : Heap} {L : Addr} {m : Str → Option Value} {news : List (Addr × Obj)} (x : Str) (_ : Fr h₀ L s.heap m) (_ : News h₀ L s.heap news)
    (h : wpAny M A (exec st env) (LwIntEnds h₀ L m x news s) E s)
    (k : ∀ z t h' tk', Fr h₀ L h' (fun y => if y = x then some (.int z t) else m y) → News h₀ L h' news → wpAny M A (execs rest env) Q E { s with heap := h', toks := tk' }) : wpAny M A (execs (st :: rest) env) Q E s :=
  wpAny_execs_cons (wpAny_mono h (fun f s' p => by obtain ⟨z, t, rfl, h', tk', rfl, F, N⟩ := p; exact k z t h' tk' F N) fun _ _ q => q)
theorem fm_pos {w : Int} (x : Int) : x % 2 ^ w.toNat = x.fmod (2 ^ w.toNat) := (Int.fmod_eq_emod_of_nonneg x (Int.le_of_lt (Int.pow_pos (by decide)))).symm
theorem fm_two {w x y : Int} : (x % 2 ^ w.toNat == x.fmod (2 ^ w.toNat) && y % 2 ^ w.toNat == y.fmod (2 ^ w.toNat)) = true := by
  rw [fm_pos, fm_pos]; simp
theorem canon2 {m : Str → Option Value} {a b : Str} {va vb : Option Value} (ha : m a = va) (hb : m b = vb) : m = fun y => if y = a then va else if y = b then vb else m y := by
  funext y
  by_cases h1 : y = a
  · rw [if_pos h1, h1, ha]
  by_cases h2 : y = b
  · rw [if_neg h1, if_pos h2, h2, hb]
  rw [if_neg h1, if_neg h2]
theorem mulb_two : Builtin.Int.intBits 2 ≤ 64 := by decide +kernel
theorem back_law {w : Int} (x : Int) (h1 : 1 ≤ w) (h2 : w ≤ 30) : ∃ b, toInt w (x % 2 ^ w.toNat) true = b ∧ -1073741824 ≤ b ∧ b ≤ 1073741824 ∧ (b - x).fmod (2 ^ w.toNat) = 0 ∧ -(2 ^ w.toNat) ≤ 2 * b ∧ 2 * b < 2 ^ w.toNat := by
  refine ⟨_, rfl, ?_⟩
  have e : (2 : Int) ^ w.toNat = 2 * 2 ^ (w - 1).toNat := by
    rw [show w.toNat = (w - 1).toNat + 1 by omega, Int.pow_succ, Int.mul_comm]
  have hP : (0 : Int) < 2 ^ (w - 1).toNat := Int.pow_pos (by decide)
  have hM : (2 : Int) ^ (w - 1).toNat ≤ 536870912 := by
    have := Nat.pow_le_pow_right (n := 2) (by decide) (show (w - 1).toNat ≤ 29 by omega)
    have e2 : ((2 ^ (w - 1).toNat : Nat) : Int) = (2 : Int) ^ (w - 1).toNat := by simp
    omega
  unfold toInt
  rw [e]
  generalize (2 : Int) ^ (w - 1).toNat = P at hP hM
  have q1 : 0 ≤ x % (2 * P) := Int.emod_nonneg _ (by omega)
  have q2 : x % (2 * P) < 2 * P := Int.emod_lt_of_pos _ (by omega)
  have q3 := Int.mul_ediv_add_emod x (2 * P)
  have key : ∀ k : Int, (2 * P * k).fmod (2 * P) = 0 := fun k => by
    rw [Int.fmod_eq_emod_of_nonneg _ (by omega), Int.mul_emod_right]
  rw [Int.fdiv_eq_ediv_of_nonneg _ (by omega)]
  generalize x % (2 * P) = y at q1 q2 q3
  by_cases hy : P ≤ y
  · have hd : y / P = 1 := by
      rw [Int.ediv_eq_iff_of_pos hP]; omega
    rw [if_pos ⟨rfl, hd⟩]
    refine ⟨by omega, by omega, ?_, by omega, by omega⟩
    have hk : y - 2 * P - x = 2 * P * (-(x / (2 * P)) - 1) := by
      rw [Int.mul_sub, Int.mul_neg, Int.mul_one]; omega
    rw [hk]; exact key _
  · have hd : y / P = 0 := Int.ediv_eq_zero_of_lt q1 (by omega)
    rw [if_neg fun q => by rw [hd] at q; exact absurd q.2 (by decide)]
    refine ⟨by omega, by omega, ?_, by omega, by omega⟩
    have hk : y - x = 2 * P * (-(x / (2 * P))) := by
      rw [Int.mul_neg]; omega
    rw [hk]; exact key _
theorem rep_lenB {b : Int} {n : Nat} (hn : n ≤ 2000) : (List.replicate n [b]).flatten.length ≤ 2000 := by
  rw [flat_one, List.length_replicate]; exact hn
theorem off3_add {I C D r : Addr} {t oI oC oD : Obj} {p1 p2 : Addr × Obj} {news : List (Addr × Obj)} (l : AllNe r (p1 :: p2 :: (I, oI) :: (C, oC) :: (D, oD) :: news)) (off : LCg.Off3 I C D news) : LCg.Off3 I C D ((r, t) :: news) :=
  ⟨⟨fun q => l.2.2.1 q.symm, fun q => l.2.2.2.1 q.symm, fun q => l.2.2.2.2.1 q.symm⟩, off⟩
theorem comp_end {h₀ h' : Heap} {L I C D r : Addr} {m : Str → Option Value} {s₁ : Shared} {t oI oC oD : Obj} {p1 p2 : Addr × Obj} {news : List (Addr × Obj)} {S : List (Addr × Obj) → Prop} {rest : Value → List (Addr × Obj) → Prop} {y : Value} {tk : Nat}
    (F : Fr h₀ L h' m) (N : News h₀ L h' ((r, t) :: p1 :: p2 :: (I, oI) :: (C, oC) :: (D, oD) :: news)) (l : AllNe r (p1 :: p2 :: (I, oI) :: (C, oC) :: (D, oD) :: news)) (off : LCg.Off3 I C D news) (hS : S ((r, t) :: news)) (k : rest y ((r, t) :: news)) :
    LCg.CompEnd h₀ L m s₁ I oI C oC D oD S rest y { s₁ with heap := h', toks := tk } :=
  LCg.CompEnd.intro F N ((r, t) :: news) (fun p hp => by
    rcases List.mem_cons.mp hp with rfl | hp
    · exact .tail _ (.tail _ (.tail _ (.head _)))
    rcases List.mem_cons.mp hp with rfl | hp
    · exact .tail _ (.tail _ (.tail _ (.tail _ (.head _))))
    rcases List.mem_cons.mp hp with rfl | hp
    · exact .tail _ (.tail _ (.tail _ (.tail _ (.tail _ (.head _)))))
    rcases List.mem_cons.mp hp with rfl | hp
    · exact .head _
    · exact .tail _ (.tail _ (.tail _ (.tail _ (.tail _ (.tail _ hp)))))) (off3_add l off) hS k
theorem bb {a b : Bool} (ha : a = true) (hb : b = true) : (a && b) = true := by rw [ha, hb]; rfl
theorem rep_low0 {b : Int} (hb : b % 2 = 0) : ∀ n, low (List.replicate n b) = 0
  | 0 => rfl
  | n + 1 => by rw [List.replicate_succ, low, rep_low0 hb n, hb]; rfl
theorem rep_low1 {b : Int} (hb : b % 2 = 1) : ∀ n, low (List.replicate n b) + 1 = 2 ^ n
  | 0 => rfl
  | n + 1 => by
    have := rep_low1 hb n
    rw [List.replicate_succ, low, hb, Nat.pow_succ]
    show 1 + 2 * _ + 1 = _
    omega
theorem rep_high0 {b : Int} (hb : b / 2 = 0) : ∀ n, high (List.replicate n b) = 0
  | 0 => rfl
  | n + 1 => by rw [List.replicate_succ, high, rep_high0 hb n, hb]; rfl
theorem rep_high1 {b : Int} (hb : b / 2 = 1) : ∀ n, high (List.replicate n b) + 1 = 2 ^ n
  | 0 => rfl
  | n + 1 => by
    have := rep_high1 hb n
    rw [List.replicate_succ, high, hb, Nat.pow_succ]
    show 1 + 2 * _ + 1 = _
    omega
theorem four_len {w : Int} (h : 1 ≤ w) (b : Int) : (w == ((List.replicate w.toNat [b]).flatten.length : Int)) = true := by
  rw [flat_one, List.length_replicate]; exact beq_iff_eq.mpr (by omega)
theorem four_l0 {w : Int} {b : Int} (hb : b % 2 = 0) : ((0 : Int) == (low (List.replicate w.toNat [b]).flatten : Int)) = true := by
  rw [flat_one, rep_low0 hb]; rfl
theorem four_h0 {w : Int} {b : Int} (hb : b / 2 = 0) : ((0 : Int) == (high (List.replicate w.toNat [b]).flatten : Int)) = true := by
  rw [flat_one, rep_high0 hb]; rfl
theorem pow_less {x n : Nat} (h : x + 1 = 2 ^ n) : (2 : Int) ^ n - 1 = (x : Int) := by
  have : ((2 ^ n : Nat) : Int) = (2 : Int) ^ n := by simp
  omega
theorem four_l1 {w : Int} {b : Int} (hb : b % 2 = 1) : ((2 : Int) ^ w.toNat - 1 == (low (List.replicate w.toNat [b]).flatten : Int)) = true := by
  rw [flat_one]; exact beq_iff_eq.mpr (pow_less (rep_low1 hb _))
theorem four_h1 {w : Int} {b : Int} (hb : b / 2 = 1) : ((2 : Int) ^ w.toNat - 1 == (high (List.replicate w.toNat [b]).flatten : Int)) = true := by
  rw [flat_one]; exact beq_iff_eq.mpr (pow_less (rep_high1 hb _))
theorem end_true {s s1 : Shared} {Q : Value → Shared → Prop} {L : Addr} {h : Heap} {m : Str → Option Value} {tk' : Nat} {y : Bool} (hret : ∀ h' tk', s.heap.StaysIn h' → Q (.bool true) { s1 with heap := h', toks := tk' }) (F : Fr s.heap L h m) (e : y = true) :
    LwRet Q (.ret (.bool y)) { s1 with heap := h, toks := tk' } := by subst e; exact hret _ _ F.keep
theorem fr_canon2 {h₀ h : Heap} {L : Addr} {m : Str → Option Value} (a b : Str) (va vb : Option Value) (F : Fr h₀ L h m) (ha : m a = va) (hb : m b = vb) : Fr h₀ L h (fun y => if y = a then va else if y = b then vb else m y) := by
  rw [← canon2 ha hb]; exact F
theorem fr_canon7 {h₀ h : Heap} {L : Addr} {m : Str → Option Value} (a b c d e f g : Str) (va vb vc vd ve vf vg : Option Value) (F : Fr h₀ L h m) (ha : m a = va) (hb : m b = vb) (hc : m c = vc) (hd : m d = vd) (he : m e = ve) (hf : m f = vf) (hg : m g = vg) :
    Fr h₀ L h (fun y => if y = a then va else if y = b then vb else if y = c then vc else if y = d then vd else if y = e then ve else if y = f then vf else if y = g then vg else m y) := by
  rw [← canon7 ha hb hc hd he hf hg]; exact F
theorem fn_know {K : Frag} {f : Addr} {name qual : Str} {params : Arguments} {body : List Stmt} {scope : Scope} {dV kV doc pm cdv ct oc : Value} {an od : Option Addr} {osl : Array (Option Value)} {P : Prop}
    (h : K.lookup f = some ⟨oc, od, .func (fnOf name qual params body scope dV kV doc pm an cdv ct), osl⟩)
    (k : K.lookup f = some ⟨oc, od, .func (fnOf name qual params body scope dV kV doc pm an cdv ct), osl⟩ → P) : P := k h
set_option maxHeartbeats 4000000 in
theorem law_end (w : World) (v : Addr) (vs : List Value) (ns : List Int) {loose : List Str} {mean : ExcName → Option Value} {mg mb : Str → Option Value} {s s1 : Shared} {Q E : Value → Shared → Prop} {dp un : Nat} {gd : Option (List Code)} {L' : Addr} {oc2 : Obj} {lo wide : Int} {tl tw : Tok} {u : Str → Option Value}
    {name qual : Str} {params : Arguments} {body : List Stmt} {scope : Scope} {dV kV doc pm cdv ct oc : Value} {an od : Option Addr} {osl : Array (Option Value)}
    (ho : (hd.heap_39 w.params).lookup 247 = some ⟨oc, od, .func (fnOf name qual params body scope dV kV doc pm an cdv ct), osl⟩)
    (X : (hd.heap_39 w.params).In s.heap) (T : Top hd.view_39 loose mean mg mb s.heap) (hL : s.heap.IsList v vs.toArray) (hI : IntsAre vs ns) (hl : ns.length ≤ 63)
    (hret : ∀ h' tk', s.heap.StaysIn h' → Q (.bool true) { s1 with heap := h', toks := tk' })
    (hdp : dp + 500 < recursionLimit) (hun : un + 8 * 500 < cLine) (B' : Below callerA s.heap [] s.heap)
    (dc2 : oc2.data = .cell (some (.int wide tw)))
    (hlo1 : -8 ≤ lo) (hlo2 : lo ≤ 27) (hwi1 : 1 ≤ wide) (hwi2 : wide ≤ 30)
    (FN : Fr s.heap L' s1.heap (fun y => if y = Str.ofString "lo" then some (.int lo tl) else if y = Str.ofString "script" then some (.ref v) else u y))
    (NN : News s.heap L' s1.heap [(L' + 1 + 1, oc2)]) :
    wpAny (model PySem.Challenge.rw_nn0303_01.row.prog w) (ktrTop dp un gd qual scope L' 247 cdv [(Str.ofString "first", L' + 1 + 1 + 1), (Str.ofString "wide", L' + 1 + 1), (Str.ofString "one", L' + 1)] [])
      (execs (body.drop 28) (envX qual scope L' 247 cdv [(Str.ofString "first", L' + 1 + 1 + 1), (Str.ofString "wide", L' + 1 + 1), (Str.ofString "one", L' + 1)])) (LwRet Q) E s1 := by
  revert X
  k_fill
  intro X
  k_dflt (refine' fn_cont ho ?k6 ?_; (case k6 => k_is))
  intro q1 q2 q3 q4
  subst q1 q2 q3 q4
  clear ho
  have hh : LwHop := trivial
  show wpAny _ _ (execs (_ :: _) _) _ _ _
  try dsimp only
  try k_fold
  refine lw_hopI (Str.ofString "figure") FN NN ?_ ?_
  · have hn0 : ns.length = 0 ∨ 1 ≤ ns.length := by omega
    rcases hn0 with hn0 | hn0
    all_goals
      k_steps
      all_goals first
        | exact ends_int (by assumption) (by assumption) (fun p hp => .tail _ hp)
        | exact absurd (decide_eq_true (List.eq_nil_of_length_eq_zero hn0)) (Bool.eq_false_iff.mp (by assumption))
        | fail
  clear FN NN
  intro fg tf h1 t1 FN NN
  k_steps
  refine lw_go ?_
  refine lw_hop FN NN ?_ ?_
  · k_steps
    all_goals first
      | k_extra "lw end"
      | exact absurd (fm_pos _) (by assumption)
      | exact absurd fm_two (Bool.eq_false_iff.mp (by assumption))
      | fail
  clear FN NN
  intro h1 t2 FN NN
  k_steps
  refine lw_go ?_
  obtain ⟨bk, hb0, hb1, hb2, hb3, hb4, hb5⟩ := back_law fg hwi1 hwi2
  rename Fr s.heap L' _ _ => F1
  rename News s.heap L' _ _ => N1
  rw [hb0] at F1
  clear hb0 l9
  try dsimp only
  refine lw_hop (news := [(_, oc2)]) F1 (fun p hp => N1 p (.tail _ hp)) ?_ ?_
  · repeat' (first | (dsimp only) | (k_unfold; (try dsimp only)) | walk1 | (leave1; try dsimp only))
    all_goals first
      | k_extra "lw end"
      | exact absurd hb3 (by assumption)
      | exact absurd hb4 (by assumption)
      | exact absurd hb5 (by assumption)
      | fail
  clear F1 N1 hb1 hb2 hb3 hb4 hb5
  intro h1 t2 FN NN
  have hlp : LwLoop := trivial
  try dsimp only
  k_steps
  refine lw_go ?_
  k_dflt (refine LCg.ListComp_U (F₀ := by k_asm) (by with_unfolding_all rfl) (by decide) (by rfl) (by decide) (by rfl) ?_)
  k_steps
  refine lw_go ?_
  clear hl9
  have hr : ∀ b : Int, 0 ≤ b ∧ b ≤ 3 → Codes (List.replicate wide.toNat [b]).flatten ∧ (List.replicate wide.toNat [b]).flatten.length ≤ 2000 := fun b hb =>
    ⟨rep_codes (fun c hc => by rw [List.mem_singleton.mp hc]; exact hb) _, rep_lenB (by omega)⟩
  obtain ⟨c0, d0⟩ := hr 0 (by decide)
  obtain ⟨c1, d1⟩ := hr 1 (by decide)
  obtain ⟨c2, d2⟩ := hr 2 (by decide)
  obtain ⟨c3, d3⟩ := hr 3 (by decide)
  clear hr
  have hmk : LwMark := trivial
  k_dflt (refine LCg.CompSrc.range (by rfl) (by k_asm) (by k_asm) (by assumption) (by decide +kernel) (rangeSize_nat _ _) (by rw [sizeLine_eq]; omega) ?_)
  intro g'
  show LCg.CompRest _ _ _ _ _ _ _ _ _ _ _ _ _ _ _ 4 0 [] _
  iterate 4
    refine LCg.CompRest.succ ?_
    intro v' I' oI' C' oC' D' m' h' tk' E' hv' hC' hx' F' N' off' ne'
    obtain ⟨t9', hv9'⟩ := hv'
    subst hv9'
    k_steps
    refine lw_go ?_
    k_here
    refine KM.mul (by k_asm) (by k_asm) (by is_list) (by l_ints) (by omega) (by omega) (by simp only [List.length_cons, List.length_nil]; omega) ?_
    intro D' h' F' N' l1 i9 n9 q9 u9 v9 w9
    (try k_lt l1)
    (try k_sweep)
    k_steps
    refine comp_end (by assumption) (by assumption) (by assumption) off' True.intro ?_
  refine LCg.CompRest.zero ?_
  k_steps
  refine end_true hret (by assumption) ?_
  repeat' first
    | with_reducible refine bb ?_ ?_
    | exact four_len hwi1 _
    | exact four_l0 (by decide)
    | exact four_l1 (by decide)
    | exact four_h0 (by decide)
    | exact four_h1 (by decide)
set_option maxHeartbeats 4000000 in
theorem law_tail (w : World) (v : Addr) (vs : List Value) (ns : List Int) {loose : List Str} {mean : ExcName → Option Value} {mg mb : Str → Option Value} {s s1 : Shared} {Q E : Value → Shared → Prop} {dp un : Nat} {gd : Option (List Code)} {L' f1 r9 a1 a2 aR : Addr} {one bs9 : List Int} {i1 its9 : Array Value} {n1 n9 : Nat} {ro9 oc1 oc2 oc3 : Obj} {lo wide cnt : Int} {sg : Bool} {p1 p2 p3 tx9 ty9 tz9 tc tl tw : Tok} {u : Str → Option Value}
    {name qual : Str} {params : Arguments} {body : List Stmt} {scope : Scope} {dV kV doc pm cdv ct oc : Value} {an od : Option Addr} {osl : Array (Option Value)}
    (ho : (hd.heap_39 w.params).lookup 247 = some ⟨oc, od, .func (fnOf name qual params body scope dV kV doc pm an cdv ct), osl⟩)
    (X : (hd.heap_39 w.params).In s.heap) (T : Top hd.view_39 loose mean mg mb s.heap) (hL : s.heap.IsList v vs.toArray) (hI : IntsAre vs ns) (hl : ns.length ≤ 63)
    (htk : 0 < s1.toks) (hret : ∀ h' tk', s.heap.StaysIn h' → Q (.bool true) { s1 with heap := h', toks := tk' })
    (hdp : dp + 500 < recursionLimit) (hun : un + 8 * 500 < cLine) (B' : Below callerA s.heap [] s.heap)
    (C1 : Codes one) (I1 : IntsAre i1.toList one) (lb1 : 1 ≤ one.length ∧ (one.length : Int) ≤ 24) (C9 : Codes bs9) (I9 : IntsAre its9.toList bs9) (lb9 : 1 ≤ bs9.length ∧ (bs9.length : Int) ≤ 12)
    (dc1 : oc1.data = .cell (some (.ref a1))) (dc2 : oc2.data = .cell (some (.int wide tw))) (dc3 : oc3.data = .cell (some (.ref f1)))
    (hlo1 : -8 ≤ lo) (hlo2 : lo ≤ 27) (hwi1 : 1 ≤ wide) (hwi2 : wide ≤ 30) (hct1 : 1 ≤ cnt) (hct2 : cnt ≤ 4) (ok : RowOk ro9)
    (e0 : f1 ≠ aR ∧ r9 ≠ aR ∧ a2 ≠ aR ∧ a1 ≠ aR ∧ L' + 1 + 1 + 1 ≠ aR ∧ L' + 1 + 1 ≠ aR ∧ L' + 1 ≠ aR)
    (FN : Fr s.heap L' s1.heap (fun y => if y = Str.ofString "second" then some (.ref r9) else if y = Str.ofString "count" then some (.int cnt tc) else if y = Str.ofString "signed" then some (.bool sg) else if y = Str.ofString "lo" then some (.int lo tl) else if y = Str.ofString "two" then some (.ref a2) else if y = Str.ofString "row" then some (.ref aR) else if y = Str.ofString "script" then some (.ref v) else u y))
    (NN : News s.heap L' s1.heap [(r9, vecObj bs9 tx9 ty9 tz9), (f1, vecObj one p1 p2 p3), (a2, W.listOf its9 n9), (a1, W.listOf i1 n1), (aR, ro9), (L' + 1 + 1 + 1, oc3), (L' + 1 + 1, oc2), (L' + 1, oc1)]) :
    wpAny (model PySem.Challenge.rw_nn0303_01.row.prog w) (ktrTop dp un gd qual scope L' 247 cdv [(Str.ofString "first", L' + 1 + 1 + 1), (Str.ofString "wide", L' + 1 + 1), (Str.ofString "one", L' + 1)] [])
      (execs (body.drop 19) (envX qual scope L' 247 cdv [(Str.ofString "first", L' + 1 + 1 + 1), (Str.ofString "wide", L' + 1 + 1), (Str.ofString "one", L' + 1)])) (LwRet Q) E s1 := by
  revert X
  k_fill
  intro X
  replace e0 := lw_go e0
  obtain ⟨lb1, lb2⟩ := lb1
  obtain ⟨lb3, lb4⟩ := lb9
  k_dflt (refine' fn_cont ho ?k6 ?_; (case k6 => k_is))
  intro q1 q2 q3 q4
  subst q1 q2 q3 q4
  replace ho := lw_go ho
  have hh : LwHop := trivial
  show wpAny _ _ (execs (_ :: _) _) _ _ _
  try dsimp only
  try k_fold
  k_steps
  refine lw_go ?_
  have hs1 := says_text C1
  refine lw_hopT FN NN ?_ ?_
  · k_steps
    all_goals first | k_extra "lw end" | exact absurd ‹(textOf _ != textOf _) = true› (by simp) | fail
  clear hs1 FN NN
  intro h1 t1 g1 FN NN
  replace htk : 0 < t1 := Nat.lt_of_lt_of_le htk g1
  clear g1
  k_steps
  refine lw_go ?_
  have hx1 := textOf_len C1
  have hx2 := odd1_len C1
  dsimp only at g9
  (show wpAny _ _ (call (.builtin "str.replace") _) _ _ _)
  refine replaceT (by show @Ne Nat _ _; omega) (by show @Ne Nat _ _; omega) (by show @Ne Nat _ _; omega) (by decide +kernel) (by omega) (by decide +kernel) ?_
  intro tr1 kr1 gr1
  dsimp only at gr1
  try dsimp only
  k_steps
  (show wpAny _ _ (call (.builtin "str.replace") _) _ _ _)
  refine replaceT (by show @Ne Nat _ _; omega) (by show @Ne Nat _ _; omega) (by show @Ne Nat _ _; omega) (by decide +kernel) (by omega) (by decide +kernel) ?_
  intro tr2 kr2 gr2
  dsimp only at gr2
  try dsimp only
  obtain ⟨od, hod, hx3, hs2, hs3, hc3⟩ : ∃ od, oddOf one = od ∧ od.length = one.length ∧ Says od one ∧ Says (Txt.replace od (Str.ofString "?") (Str.ofString "Z")) one ∧ od.cps.toList = one.reverse.map sc2 := ⟨_, rfl, oddOf_len C1, says_odd C1, says_odd2 C1, odd_cps C1⟩
  rw [show Txt.replace (Txt.replace (textOf one) (Str.ofString "z") (Str.ofString "?")) (Str.ofString "x") (Str.ofString "X") = od from hod]
  clear hod hx1 hx2
  k_steps
  refine lw_go ?_
  rename Fr s.heap L' _ _ => F1
  rename News s.heap L' _ _ => N1
  refine lw_hopT (news := [(r9, _), (f1, _), (a2, _), (a1, _), (aR, _), (_, oc3), (_, oc2), (_, oc1)]) F1 N1 ?_ ?_
  · k_steps
    dsimp only at g9
    (show wpAny _ _ (call (.builtin "str.replace") _) _ _ _)
    refine replaceT (by show @Ne Nat _ _; omega) (by show @Ne Nat _ _; omega) (by show @Ne Nat _ _; omega) (by decide +kernel) (by omega) (by decide +kernel) ?_
    intro tr3 kr3 gr3
    dsimp only at gr3
    try dsimp only
    k_steps
    all_goals first | k_extra "lw end" | fail
  clear hs2 hs3 F1 N1
  intro h1 t2 g1 FN NN
  dsimp only at g1
  replace htk : 0 < t2 := by omega
  clear g1 g9 gr1 gr2
  unfold LwStop at e0
  have U : UpdF aR ro9 [(r9, vecObj bs9 tx9 ty9 tz9), (f1, vecObj one p1 p2 p3), (a2, W.listOf its9 n9), (a1, W.listOf i1 n1), (aR, ro9), (L' + 1 + 1 + 1, oc3), (L' + 1 + 1, oc2), (L' + 1, oc1)] (fun o' => [(r9, vecObj bs9 tx9 ty9 tz9), (f1, vecObj one p1 p2 p3), (a2, W.listOf its9 n9), (a1, W.listOf i1 n1), (aR, o'), (L' + 1 + 1 + 1, oc3), (L' + 1 + 1, oc2), (L' + 1, oc1)]) :=
    .tail e0.2.1 (.tail e0.1 (.tail e0.2.2.1 (.tail e0.2.2.2.1 (.head fun p hp => by
      rcases List.mem_cons.mp hp with rfl | hp
      · exact e0.2.2.2.2.1
      rcases List.mem_cons.mp hp with rfl | hp
      · exact e0.2.2.2.2.2.1
      rcases List.mem_cons.mp hp with rfl | hp
      · exact e0.2.2.2.2.2.2
      · cases hp))))
  clear e0
  k_steps
  refine lw_go ?_
  clear U l9
  obtain ⟨sp, hsp, sp1, sp2⟩ : ∃ sp, x9.fmod ↑one.length = sp ∧ 0 ≤ sp ∧ sp < one.length := ⟨_, rfl, Int.fmod_nonneg hx9 (by omega), Int.fmod_lt_of_pos _ (by omega)⟩
  rename Fr s.heap L' _ _ => F1
  rename News s.heap L' _ _ => N1
  rw [hsp] at F1
  clear hsp hx9 hy9
  try dsimp only at F1
  obtain ⟨sk, rfl⟩ := Int.eq_ofNat_of_zero_le sp1
  have hbt := bad_text C1 hc3 (k := sk) (by omega) hct1 hct2
  refine lw_hop (news := [(r9, _), (f1, _), (a2, _), (a1, _), (aR, _), (_, oc3), (_, oc2), (_, oc1)]) F1 N1 ?_ ?_
  · clear htk
    k_steps
    all_goals first | k_extra "lw end" | fail
  clear F1 N1 hbt hc3 sp1 sp2 hx3
  intro h1 t2 FN NN
  have hlp : LwLoop := trivial
  k_steps
  refine lw_go ?_
  refine lw_hop FN NN ?_ ?_
  · clear htk
    k_steps
    refine lw_go ?_
    k_dflt (refine LCg.ListComp_U (F₀ := by k_asm) (by with_unfolding_all rfl) (by decide) (by rfl) (by decide) (by rfl) ?_)
    k_steps
    refine lw_go ?_
    clear hl9
    have hsl := sizeLine_eq
    have hz := IntsAre.length I1
    rw [Array.length_toList] at hz
    k_dflt (refine LCg.CompSrc.ledger (by rfl) (by k_asm) (by k_asm) (by k_mem) (by omega) ?_)
    intro g'
    refine' kcf_list (vs := i1.toList) (fun b : Int => if b = 2 then 3 else b) I1 (fun k' t' I' oI' C' oC' D' m' ys' h' tk' E' hk' hC' hx' F' N' off' ne' hM' => ?_) ?_
    · have hc := C1 k' hk'
      try k_fold
      k_steps
      all_goals fail
    · unfold KPfDone
      intro ys hys D h tk F7 N7 off7
      have hcs : Codes (one.map fun b : Int => if b = 2 then 3 else b) := by
        intro b hb
        obtain ⟨c, hc, rfl⟩ := List.mem_map.mp hb
        have := C1 c hc
        try dsimp only
        split <;> omega
      have hls : (one.map fun b : Int => if b = 2 then 3 else b).length ≤ 2000 := by rw [List.length_map]; omega
      k_steps
      all_goals first | k_extra "lw end" | fail
  clear FN NN
  intro h1 t2 FN NN
  k_steps
  refine lw_go ?_
  clear hlp
  refine lw_hop FN NN ?_ ?_
  · clear htk
    k_steps
    all_goals first
      | k_extra "lw end"
      | exact absurd (truth1 (by assumption)) (by assumption)
      | exact absurd (truth2 (by assumption) (by assumption)) (by assumption)
      | exact absurd (truth3 (by assumption) (by assumption)) (by assumption)
      | exact absurd (truth0 (by assumption) (by assumption) (by assumption)) (by assumption)
      | fail
  clear FN NN
  intro h1 t2 FN NN
  show wpAny _ _ (execs (_ :: _) _) _ _ _
  refine lw_hopP (Str.ofString "known") (.bool (decide (high one = 0))) FN NN ?_ ?_
  · clear htk
    k_steps
    · refine ends_put (by assumption) (by assumption) (congrArg Value.bool (known2 C1 (by assumption))) (fun p hp => hp)
    · refine ends_put (by assumption) (by assumption) (congrArg Value.bool (known3 C1 (by assumption))) (fun p hp => hp)
  clear FN NN
  intro h1 t2 FN NN
  k_steps
  refine lw_go ?_
  refine lw_hop FN NN ?_ ?_
  · clear htk
    by_cases hz : (high one : Int) = 0
    all_goals
      k_steps
      all_goals first
        | k_extra "lw end"
        | exact absurd ‹(decide _ != decide _) = true› (by simp)
        | exact absurd rfl (by assumption)
        | fail
  clear FN NN
  intro h1 t2 FN NN
  unfold LwStop at ho
  replace FN := fr_canon2 (Str.ofString "lo") (Str.ofString "script") (some (.int lo tl)) (some (.ref v)) FN (by rfl) (by rfl)
  exact law_end w v vs ns ho X T hL hI hl (fun h' tk' k => hret h' tk' k) hdp hun B' dc2 hlo1 hlo2 hwi1 hwi2 FN (fun p hp => NN p (by rw [List.mem_singleton.mp hp]; exact .tail _ (.tail _ (.tail _ (.tail _ (.tail _ (.tail _ (.head _))))))))
set_option maxHeartbeats 2000000 in
theorem law_spec (w : World) (v : Addr) (vs : List Value) (ns : List Int) : ∀ (loose : List Str) (mean : ExcName → Option Value) (mg mb : Str → Option Value) (s : Shared) (Q E : Value → Shared → Prop),
    (hd.heap_39 w.params).In s.heap → Top hd.view_39 loose mean mg mb s.heap → s.heap.IsList v vs.toArray → IntsAre vs ns → ns.length ≤ 63 →
    (∀ h' tk', s.heap.StaysIn h' → Q (.bool true) { s with heap := h', toks := tk' }) →
    wpAny (model PySem.Challenge.rw_nn0303_01.row.prog w) callerA (call (.ref 247) [.ref v]) Q E s := by
  have hn : LwNames [Str.ofString "script"] := trivial
  k_fill
  intro loose mean mg mb s Q E X T hL hI hl hret
  k_dflt (refine' call_top (fun n => [(Str.ofString "first", n + 1 + 1), (Str.ofString "wide", n + 1), (Str.ofString "one", n)]) ?kc ?k0 ?k3 ?k5 ?k6 ?k7 ?k9 ?kB ?kn ?_ ?c2 ?c3 ?c4; (case k0 => with_reducible assumption); (case k3 => k_asm); (case k5 => k_asm); (case k6 => k_is); (case kc => intro n; exact rfl); (case k7 => k_is); (case k9 => exact BindsTo.of_eq rfl); (case kB => intro n x hx; cases hx with | head => exact Or.inl rfl | tail _ h => cases h); (case kn => decide); (case c2 => exact rfl); (case c3 => exact rfl); (case c4 => exact rfl); k_whole)
  intro dp un gd L' h₁ tk cells hdp hun F' N' Y' B'
  obtain ⟨o1, o2, o3, rfl, d1, d2, d3⟩ := cells3 Y'
  clear Y'
  replace F' : Fr s.heap L' h₁ (fun y => if y = Str.ofString "script" then some (.ref v) else none) := F'
  replace d1 : o1.data = .cell none := d1
  replace d2 : o2.data = .cell none := d2
  replace d3 : o3.data = .cell none := d3
  have hvl := IntsAre.length hI
  have hv63 : vs.length ≤ 63 := by omega
  have hh : LwHop := trivial
  have hpp : LwPre := trivial
  try dsimp only
  try k_fold
  k_steps
  rename_i aR _ _ _ _ e1 _ _ _ _ _ _ _ _ _ _ _ _ _ _ a1 n1 i1 one _ _ _ C1 I1 _ lb1 e2 _ oc1 dc1 _ _ _ _ _ _ _ _ _ _ _ a2 _ _ _ _ e3 _ _ _ _ _ _ xlo _ _ _ _ _ _ _ _ _ _ _ xwi _ _ _ _ _ _ oc2 dc2 _ _ _ _ _ xsg _ _ _ _ _ _ _ _ _ _ _ _ f1 p1 p2 p3 _ _ e4 _ _ _ oc3 dc3 hN FN NN
  refine lw_go ?_
  obtain ⟨lo, hlo1, hlo2, hlo⟩ : ∃ lo, -8 ≤ lo ∧ lo ≤ 27 ∧ xlo.fmod 36 - 8 = lo := by
    obtain ⟨y, h1, h2, e⟩ := fmod_in xlo (k := 36) (a := -8) (by decide)
    exact ⟨y, h1, by omega, by omega⟩
  obtain ⟨wide, hwi1, hwi2, hwi⟩ : ∃ wide, 1 ≤ wide ∧ wide ≤ 30 ∧ 1 + xwi.fmod 30 = wide := by
    obtain ⟨y, h1, h2, e⟩ := fmod_in xwi (k := 30) (a := 1) (by decide)
    exact ⟨y, h1, by omega, by omega⟩
  obtain ⟨cnt, hct1, hct2, hct⟩ : ∃ cnt, 1 ≤ cnt ∧ cnt ≤ 4 ∧ 1 + x9.fmod 4 = cnt := by
    obtain ⟨y, h1, h2, e⟩ := fmod_in x9 (k := 4) (a := 1) (by decide)
    exact ⟨y, h1, by omega, by omega⟩
  rw [hlo, hct] at FN
  rw [hwi] at dc2
  generalize hsg : (xsg.fmod 2 == 1) = sg at FN
  dsimp only at FN dc2
  have ok := ok9
  clear hsg hlo hwi hct hp9
  have e0 := lw_go (And.intro e1 (And.intro e2 (And.intro e3 (And.intro e4 l9))))
  clear e1 e2 e3 e4 l9
  refine lw_hop FN NN ?_ ?_
  · have hlp : LwLoop := trivial
    k_steps
    refine lw_go ?_
    k_dflt (refine LCg.ListComp_U (F₀ := by k_asm) (by with_unfolding_all rfl) (by decide) (by rfl) (by decide) (by rfl) ?_)
    k_steps
    refine lw_go ?_
    clear hl9
    k_dflt (refine LCg.CompSrc.range (by rfl) (by k_asm) (by k_asm) (by assumption) (small_one (by omega) (by omega) (by omega) (by omega)) (rangeSize_nat _ _) (by rw [sizeLine_eq]; omega) ?_)
    intro g'
    refine' kcf_range (fun k => cd one k.toNat) (fun k' t' I' oI' C' oC' D' m' ys' h' tk' E' hlo' hhi' hC' hx' F' N' off' ne' hM' => ?_) ?_
    · try k_fold
      k_steps
    · unfold KPfDone
      intro ys hys D h tk F7 N7 off7
      rw [show (rangeKs 0 ((one.length : Int) - 0).toNat).map (fun k => cd one k.toNat) = one from range_codes one] at hys
      k_steps
      all_goals first | k_extra "lw end" | fail
  intro h1 t1 F1 N1
  clear FN NN
  have hlp : LwLoop := trivial
  k_steps
  refine lw_go ?_
  clear hl9
  k_dflt (refine LCg.CompSrc.range (by rfl) (by k_asm) (by k_asm) (by assumption) (small_one (by omega) (by omega) (by omega) (by omega)) (rangeSize_nat _ _) (by rw [sizeLine_eq]; omega) ?_)
  intro g'
  refine' kcf_range (fun k : Int => if 0 ≤ k ∧ k < one.length then cd one k.toNat else 3) (fun k' t' I' oI' C' oC' D' m' ys' h' tk' E' hlo' hhi' hC' hx' F' N' off' ne' hM' => ?_) ?_
  · try k_fold
    k_steps
    exact kcf_el ((if_pos ⟨by assumption, by assumption⟩).trans rfl) rfl rfl
  unfold KPfDone
  intro ys hys D h tk F7 N7 off7
  rw [range_slice] at hys
  have hcs : Codes (slice one lo wide.toNat) := slice_codes C1 _ _
  have hls : (slice one lo wide.toNat).length ≤ 2000 := by rw [slice_len]; omega
  k_steps
  refine lw_go ?_
  rename Fr s.heap L' _ _ => FN
  rename News s.heap L' _ (_ :: _) => NN
  refine lw_hop (news := [(r9, _), (f1, _), (a2, _), (a1, _), (aR, _), (_, oc3), (_, oc2), (_, oc1)]) FN (fun p hp => NN p (.tail _ hp)) ?_ ?_
  · k_steps
    all_goals first | k_extra "lw end" | fail
  clear hys hcs hls FN NN
  intro h1 t1 F1 N1
  have hlp : LwLoop := trivial
  k_steps
  refine lw_go ?_
  clear hl9
  rename News s.heap L' _ ((_, W.listOf i1 _) :: _) => NN
  rename Fr s.heap L' _ _ => FN
  have hlen2 := IntsAre.length I9
  refine' lw_range (D := List Value × Nat) (n := bs9.length) (fun _ => _) (fun d => (_, W.listOf d.1.toArray d.2) :: _) (fun j d => IntsAre d.1 (putn one bs9 lo j)) (i1.toList, _) rfl (by assumption) (small_one (by omega) (by omega) (by omega) (by omega)) (by rw [rangeSize_nat]; omega) FN NN (fun _ _ => rfl) (fun _ => rfl) (by rw [putn_zero]; exact I1) ?turn ?done
  case turn =>
    rintro j t ⟨us, un⟩ h tk own hj hJ hoff F1 N1
    dsimp only at hJ
    dsimp only [List.map] at hoff
    dsimp only [List.cons_append, List.nil_append] at N1
    have hlj := IntsAre.length hJ
    rw [putn_len] at hlj
    clear hh9 FN NN
    try k_fold
    k_steps
    · refine' turn_next (D := List Value × Nat) (_, _) (by assumption) (by assumption) (fun z hz => if_neg hz) (led_in1 rfl) own_in1 ?_
      rename IntsAre (List.set _ _ _) _ => hset
      exact putn_set' (bs := one) (cs := bs9) (lo := lo) (n := j) (by omega) (by omega) ▸ hset
    · exact turn_next (D := List Value × Nat) (us, un) F1 N1 (fun z hz => if_neg hz) (led_in1 rfl) (fun p hp => by repeat (first | exact hp | refine List.Mem.tail _ ?_)) (putn_skip (bs := one) (cs := bs9) (lo := lo) (n := j) (by omega) ▸ hJ)
    · exact turn_next (D := List Value × Nat) (us, un) F1 N1 (fun z hz => if_neg hz) (led_in1 rfl) (fun p hp => by repeat (first | exact hp | refine List.Mem.tail _ ?_)) (putn_skip (bs := one) (cs := bs9) (lo := lo) (n := j) (by omega) ▸ hJ)
  case done =>
    rintro ⟨us, un⟩ u h tk hJ F1 N1
    dsimp only at hJ N1
    rw [putn_all] at hJ
    clear FN NN
    try k_unfold
    k_steps
    refine lw_go ?_
    have hcp : Codes (put one bs9 lo) := put_codes C1 C9 lo
    have hlp : (put one bs9 lo).length ≤ 2000 := by rw [put_len]; omega
    refine lw_hop (news := [(r9, _), (f1, _), (a2, _), (a1, _), (aR, _), (_, oc3), (_, oc2), (_, oc1)]) F1 (fun p hp => N1 p (.tail _ hp)) ?_ ?_
    · k_steps
      refine' use_put (put_spec _ _ one _ _ _ _ _ _ bs9 _ _ _) (by k_asm) (by k_asm) (by k_asm) (by k_asm) (by k_asm) (by first | exact rfl | assumption) (by ktr_room) (by ktr_units) (by exact ⟨by k_extra "lw_tup", by k_extra "lw_tup", by assumption, by assumption, by omega, by omega, by omega, by omega⟩) ?_ ?_
      · intro r9 tx9 ty9 tz9 h9 tk9 F9 N9
        k_steps
        all_goals first | k_extra "lw end" | fail
      · intro e h9 tk9 F9 N9
        rw [e] at hJ hcp hlp
        k_steps
        all_goals first | k_extra "lw end" | fail
    clear hJ hcp hlp N1
    intro h1 t1 FN NN
    have hc1 : Codes (one ++ bs9 ++ one) := codes_append (codes_append C1 C9) C1
    have hc2 : Codes (bs9 ++ one) := codes_append C9 C1
    have hl1 : (one ++ bs9 ++ one).length ≤ 2000 := by simp only [List.length_append]; omega
    have hl2 : (bs9 ++ one).length ≤ 2000 := by simp only [List.length_append]; omega
    k_steps
    refine lw_go ?_
    refine lw_hop (news := [(r9, _), (f1, _), (a2, _), (a1, _), (aR, _), (_, oc3), (_, oc2), (_, oc1)]) FN NN ?_ ?_
    · k_steps
      all_goals first | k_extra "lw end" | fail
    clear hc1 hc2 hl1 hl2 FN NN
    intro h1 t1 FN NN
    k_steps
    refine lw_go ?_
    have hc1 : Codes (List.replicate cnt.toNat bs9).flatten := rep_codes C9 _
    have hl1 : (List.replicate cnt.toNat bs9).flatten.length ≤ 2000 := rep_len (by omega) (by omega)
    refine lw_hop (news := [(r9, _), (f1, _), (a2, _), (a1, _), (aR, _), (_, oc3), (_, oc2), (_, oc1)]) FN NN ?_ ?_
    · k_steps
      all_goals first | k_extra "lw end" | fail
    clear hc1 hl1 FN NN
    intro h1 t1 FN NN
    have hlp : LwLoop := trivial
    k_steps
    refine lw_go ?_
    refine lw_join1 (lastc one sg) ?_ ?_
    · clear hl9
      k_steps
      · exact one_of (last_on (by assumption))
      · exact one_of (last_off (by assumption))
    intro tX tkX
    clear hl9
    k_steps
    refine lw_go ?_
    rename IntsAre _ (List.take wide.toNat one ++ _) => hJ
    rw [ext_take C1 (by omega)] at hJ
    have hce : Codes (ext one wide.toNat (lastc one sg)) := ext_codes C1 _ (lastc_range C1 sg)
    have hle : (ext one wide.toNat (lastc one sg)).length ≤ 2000 := by rw [ext_len]; omega
    rename News s.heap L' _ (_ :: _ :: _ :: _ :: _) => N1
    rename Fr s.heap L' _ _ => F1
    refine lw_hopT (news := [(r9, _), (f1, _), (a2, _), (a1, _), (aR, _), (_, oc3), (_, oc2), (_, oc1)]) F1 (fun p hp => N1 p (.tail _ (.tail _ (.tail _ (.tail _ hp))))) ?_ ?_
    · k_steps
      all_goals first | k_extra "lw end" | fail
    clear hJ hce hle F1 N1
    intro h1 t1 g1 FN NN
    unfold LwStop at e0
    obtain ⟨e1, e2, e3, e4, e5⟩ := e0
    replace FN := fr_canon7 (Str.ofString "second") (Str.ofString "count") (Str.ofString "signed") (Str.ofString "lo") (Str.ofString "two") (Str.ofString "row") (Str.ofString "script") (some (.ref r9)) (some (.int cnt _)) (some (.bool sg)) (some (.int lo _)) (some (.ref a2)) (some (.ref aR)) (some (.ref v)) FN (by rfl) (by rfl) (by rfl) (by rfl) (by rfl) (by rfl) (by rfl)
    k_dflt (refine' fn_know (K := hd.heap_39 w.params) (f := 247) ?k6 ?_; (case k6 => k_is))
    intro ho
    exact law_tail w v vs ns ho X T hL hI hl (Nat.lt_of_lt_of_le (Nat.succ_pos _) g1) (fun h' tk' k => hret h' tk' k) hdp hun B' C1 I1 lb1 C9 I9 lb9 dc1 dc2 dc3 hlo1 hlo2 hwi1 hwi2 hct1 hct2 ok ⟨Ne.symm e4.2.2.1, Ne.symm e5.2.2.2.1, Ne.symm e3.2.1, Ne.symm e2.1, e1.1, e1.2.1, e1.2.2⟩ FN NN
theorem goodW_boolK {c : ClaimW} {cl : Str → Option Addr} {mean : ExcName → Option Value} {args : List WData} {s₁ s' : Shared} {b : Bool} (k : s₁.heap.StaysIn s'.heap) (hg : s'.gens = #[]) (hn : ∀ cls, c.raises args cls = false) (hp : c.post args (.bool b) args = true) (hos : s'.os = s₁.os := by rfl) :
    GoodW c cl mean args s₁ (.ok (.ret (.bool b))) s' := ⟨.inl ⟨_, _, _, rfl, hn, .bool b, hp, unshared_nil⟩, k, hos, hg⟩
set_option maxHeartbeats 8000000 in
theorem fin : PySem.Challenge.rw_nn0303_01.Holds := hd (by
  k_fill
  intro w s₀ s₁ mg mb G Y fa o pm cd doc dV kV ho hd hcd hD hmg hg args vals as hpre hlay hrd hwl hlo
  have KX := kIn_of Y
  have X := (Ground.X G).1
  have V := (Ground.X G).2
  try w_nolog (first | (have GL := glob_more (Ground.glob G (by first | k_qdec | decide +kernel) (by first | k_qdec | decide +kernel)) V) | (have GL := glob_more (Ground.glob G (by decide +kernel)) V))
  refine Ground.open G ?_
  intro T B D TE TW
  try (refine guard_noD D (by decide +kernel) ?_; clear D)
  wrow_args hpre hlay hrd hwl hlo
  have h247 : mg (Str.ofString "law") = some (.ref 247) := mg_of KX T.g (by k_is)
  have e : fa = 247 := by
    have q := hmg.symm.trans h247
    injection q with q
    injection q
  subst e
  rename IntsAre _ _ => hI
  rename Heap.IsList _ _ _ => hL
  refine law_spec w _ _ _ _ _ _ _ s₁ _ _ KX T hL hI (by omega) (fun h' tk' k => ?_)
  exact GoodW.toG (goodW_boolK k hg (raisesW_false (by wrow_none_raised)) (postW_of (by wrow_shape) (by wtm_val) (by first | rfl | decide | simp))))
end Mine
theorem PySem.Challenge.cw_nn0303_01_holds : PySem.Challenge.rw_nn0303_01.Holds :=
  Mine.fin
