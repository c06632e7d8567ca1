import PyProof.Rows.All
import Wide.All
import OpenK.AllK
import Wide.FinOn
import Lean
import PySem.Challenge.RW_xm0959_01
open PySem PySem.W PyProof.Rows
set_option Elab.async false
set_option maxRecDepth 1000000
set_option maxHeartbeats 0
set_option rowWalk.seconds 0
set_option linter.unusedVariables false
set_option linter.unusedSimpArgs false
section
namespace Mine
open PySem.Calls PySem.Spec

noncomputable def LeaveO (s : Shared) (g : Heap) (Sp : Value → List (Addr × Obj) → Prop) (v : Value) (s' : Shared) : Prop :=
  ∃ L' m' news' h' tk', s' = { s with heap := h', toks := tk' } ∧ Fr g L' h' m' ∧ News g L' h' news' ∧ Sp v news'

theorem LeaveO.intro {s : Shared} {g : Heap} {Sp : Value → List (Addr × Obj) → Prop} {v : Value} {L' : Addr} {m' : Str → Option Value} {news' news'' : List (Addr × Obj)} {h' : Heap} {tk' : Nat}
    (F : Fr g L' h' m') (N : News g L' h' news') (hs : ∀ p ∈ news'', p ∈ news') (h : Sp v news'') : LeaveO s g Sp v { s with heap := h', toks := tk' } := ⟨_, _, _, _, _, rfl, F, fun p hp => N p (hs p hp), h⟩

section
variable {prog : Program} {w : World} {A A₀ : Around} {s : Shared} {K : Frag} {L : Addr} {h₀ base : Heap} {m mg mb : Str → Option Value} {news led own : List (Addr × Obj)} {p : Program} {loose : List Str} {mean : ExcName → Option Value}
  {env : Env} {outer : List Env} {R : Result → Shared → Prop} {name qual : Str} {params : Arguments} {body : List Stmt} {scope : Scope} {dV kV doc pm cdv ct oc : Value} {an od : Option Addr} {osl : Array (Option Value)} {f : Addr} {args : Args} {binds : List (Str × Value)}

theorem codeO (Sp : Value → List (Addr × Obj) → Prop)
    (B : Below A₀ base outer h₀) (F : Fr h₀ L s.heap m) (X₀ : K.In h₀) (N : News h₀ L s.heap news) (T : Top p loose mean mg mb h₀) (hA : A.frames = some (env :: outer)) (hf : env.frame = some L) (hke : env.scope.kind = .function)
    (ho : K.lookup f = some ⟨oc, od, .func (fnOf name qual params body scope dV kV doc pm an cdv ct), osl⟩) (hcd : codeIn K cdv qual = true) (hroom : A.depth < recursionLimit)
    (hbind : BindsTo s (fnOf name qual params body scope dV kV doc pm an cdv ct) args binds) (hloc : ∀ y ∈ binds, scope.names.lookup y.1 = some .local)
    (hl : ∀ p ∈ led, p ∈ news) (hw : ∀ p ∈ own, p ∈ news) (off : ∀ p ∈ own, ∀ q ∈ led, p.1 ≠ q.1)
    (h : ∀ g L' h₁ (R' : Flow → Shared → Prop), (∀ fl s', LeaveO s g Sp (match fl with | .ret v => v | _ => .none) s' → R' fl s') → Fr h₀ L g m → Fr g L' h₁ (fun y => binds.reverse.lookup y) → News g L' h₁ led → Below A base (env :: outer) g → K.In g → Top p loose mean mg mb g → (∀ p ∈ led, p.1 < L') →
      wpAny (model prog w) (A.deeper (envOf qual scope L' f cdv)) (execs body (envOf qual scope L' f cdv)) R' (fun _ _ => False) { s with heap := h₁, toks := s.toks + binds.length })
    (hR : ∀ v news' h' tk', Fr h₀ L h' m → News h₀ L h' (news' ++ own) → (∀ p ∈ own, ∀ q ∈ news', p.1 ≠ q.1) → Sp v news' → R (.ok (.ret v)) { s with heap := h', toks := tk' })
    (hco : scope.isCoroutine = false) (hgen : scope.isGenerator = false) (hk : scope.kind = .function)
    (hcell : ∀ x ∈ scope.names, x.2 ≠ .cell) : codeAny (model prog w) A (.call (.ref f) args) R s := by
  have Nl : News h₀ L s.heap led := fun p hp => N p (hl p hp)
  have hso : s.heap.get? f = some ⟨oc, od, .func (fnOf name qual params body scope dV kV doc pm an cdv ct), osl⟩ := (X₀.keeps F.keep) _ _ ho
  have G := fun (R' : Result → Shared → Prop) => groundX (R := R') B F Nl hA hf hke
  obtain ⟨FG, BG, st, _⟩ := G R
  refine codeAny_call_def (fd := fnOf name qual params body scope dV kV doc pm an cdv ct) (body := body) (binds := binds) hroom hso rfl (T.nolimit.keeps F.keep) (codeRec_of (X₀.keeps F.keep) hcd) rfl hbind hcell hloc (fun h₁ hns hk₁ => ?_) hco hgen hk
  refine wpAny_mono (h _ s.heap.objs.size h₁ _ (fun _ _ y => y) FG ⟨hns, fun b o e => hk₁ b o (of_hideAll _ e), Nat.le_of_eq (hideAll_size _ _)⟩
    (fun p hp => ⟨hk₁ _ _ (Nl p hp).1, Nat.ne_of_lt (Heap.lt_size (Nl p hp).1), hideAll_none _ (List.mem_map_of_mem hp)⟩) BG (X₀.keeps st) (T.keeps st) (fun p hp => Heap.lt_size (Nl p hp).1)) (fun fl s' hl' => ?_) fun _ _ y => False.elim y
  obtain ⟨L', m', news', h', tk', rfl, F', N', hs⟩ := hl'
  obtain ⟨_, _, _, lv⟩ := G (fun r s' => Fr h₀ L s'.heap m ∧ News h₀ L s'.heap news')
  obtain ⟨F₂, N₂⟩ := lv (match fl with | .ret v => v | _ => .none) { s with heap := h', toks := tk' } ⟨L', m', news', F', N', fun a b => ⟨a, b⟩⟩
  have own_g : ∀ p ∈ own, (hideAll s.heap (led.map (·.1))).get? p.1 = some p.2 := fun p hp => hideAll_get _ (N p (hw p hp)).1 (fun q => by
    obtain ⟨q', hq', e⟩ := List.mem_map.mp q
    exact off p hp q' hq' e.symm)
  refine hR _ news' h' tk' F₂ (fun p hp => ?_) (fun p hp q hq e => ?_) hs
  · rcases List.mem_append.mp hp with hp | hp
    · exact N₂ p hp
    · exact ⟨F'.keep _ _ (own_g p hp), (N p (hw p hp)).2⟩
  · have := (N' q hq).2.2
    rw [← e, own_g p hp] at this
    cases this
end
end Mine
namespace Mine
open PySem PySem.W PySem.Calls PySem.Spec PyProof.Rows
/-- what of a ledger stands beside led -/
inductive OwnOf (led : List (Addr × Obj)) : List (Addr × Obj) → List (Addr × Obj) → Prop
  | nil : OwnOf led [] []
  | drop {p : Addr × Obj} {r own : List (Addr × Obj)} : OwnOf led r own → OwnOf led (p :: r) own
  | add {p : Addr × Obj} {r own : List (Addr × Obj)} : (∀ q ∈ led, q.1 ≠ p.1) → OwnOf led r own → OwnOf led (p :: r) (p :: own)
theorem OwnOf.sub {led : List (Addr × Obj)} : ∀ {news own : List (Addr × Obj)}, OwnOf led news own → ∀ p ∈ own, p ∈ news
  | _, _, .nil, _, hp => nomatch hp
  | _, _, .drop h, p, hp => .tail _ (h.sub p hp)
  | _, _, .add _ h, p, hp => by
    rcases List.mem_cons.mp hp with rfl | hp
    · exact .head _
    · exact .tail _ (h.sub p hp)
theorem OwnOf.off {led : List (Addr × Obj)} : ∀ {news own : List (Addr × Obj)}, OwnOf led news own → ∀ p ∈ own, ∀ q ∈ led, p.1 ≠ q.1
  | _, _, .nil, _, hp => nomatch hp
  | _, _, .drop h, p, hp => h.off p hp
  | _, _, .add a h, p, hp => by
    rcases List.mem_cons.mp hp with rfl | hp
    · exact fun q hq e => a q hq e.symm
    · exact h.off p hp
/-- two addresses that differ (a structure: quickly told apart from others) -/
structure Ap (a b : Nat) : Prop where
  ne : a ≠ b
/-- d is none of the ledger's addresses -/
noncomputable def Apart (d : Addr) : List (Addr × Obj) → Prop
  | [] => True
  | p :: r => Ap p.1 d ∧ Apart d r
theorem Apart.of {d : Addr} : ∀ {l : List (Addr × Obj)}, (∀ p ∈ l, p.1 ≠ d) → Apart d l
  | [], _ => trivial
  | p :: _, h => ⟨⟨h p (.head _)⟩, Apart.of fun q hq => h q (.tail _ hq)⟩
theorem Apart.append {d : Addr} : ∀ {l l' : List (Addr × Obj)}, Apart d l → Apart d l' → Apart d (l ++ l')
  | [], _, _, h => h
  | _ :: _, _, h, h' => ⟨h.1, Apart.append h.2 h'⟩
end Mine
namespace Mine
open PySem PySem.W PySem.Calls PySem.Spec PyProof.Rows
theorem OwnOf.dropIn {led : List (Addr × Obj)} {p : Addr × Obj} {r own : List (Addr × Obj)} (_ : p ∈ led) (h : OwnOf led r own) : OwnOf led (p :: r) own := .drop h
theorem apart_own {own news' : List (Addr × Obj)} (off : ∀ p ∈ own, ∀ q ∈ news', p.1 ≠ q.1) {d : Addr} {o : Obj} (hm : (d, o) ∈ news') : Apart d own := Apart.of fun p hp => off p hp _ hm
theorem AllLt.apart {d : Addr} : ∀ {l : List (Addr × Obj)}, AllLt d l → Apart d l
  | [], _ => trivial
  | _ :: _, h => ⟨⟨Nat.ne_of_lt h.1⟩, AllLt.apart h.2⟩
end Mine
namespace Mine
open PySem PySem.W PySem.Calls PySem.Spec PyProof.Rows
theorem OwnOf.offR {led news own : List (Addr × Obj)} (h : OwnOf led news own) : ∀ p ∈ own, ∀ q ∈ led, q.1 ≠ p.1 := fun p hp q hq e => h.off p hp q hq e.symm
end Mine
namespace Mine
open PySem PySem.W PySem.Calls PySem.Spec PyProof.Rows
theorem stored_le {K : Type} [DecidableEq K] (kvs : List (K × Value)) (k : K) (v : Value) : (stored kvs k v).length ≤ kvs.length + 1 := by
  unfold stored
  split
  · rw [List.length_map]; omega
  · rw [List.length_append]; exact Nat.le_refl _
end Mine
namespace Mine
open PySem PySem.W PySem.Calls PySem.Spec PyProof.Rows
/-- the ledger's addresses are all different -/
noncomputable def Dist : List (Addr × Obj) → Prop
  | [] => True
  | p :: r => Apart p.1 r ∧ Dist r
end Mine
namespace Mine
open PySem PySem.W PySem.Calls PySem.Spec PyProof.Rows
theorem Apart.lt {d : Addr} {l : List (Addr × Obj)} (h : ∀ p ∈ l, p.1 < d) : Apart d l := Apart.of fun p hp => Nat.ne_of_lt (h p hp)
theorem Apart.lt2 {d x : Nat} {l : List (Addr × Obj)} (h : ∀ p ∈ l, p.1 < d) (h2 : d < x) : Ap d x ∧ Apart x l := ⟨⟨Nat.ne_of_lt h2⟩, Apart.lt fun p hp => Nat.lt_trans (h p hp) h2⟩
end Mine
namespace Mine
open PySem PySem.W PySem.Calls PySem.Spec PyProof.Rows
theorem Apart.alls {d : Addr} {l : List (Addr × Obj)} (h : Apart d l) : ∀ q ∈ l, q.1 ≠ d := by
  induction l with
  | nil => intro q hq; cases hq
  | cons p r ih =>
    intro q hq
    cases hq with
    | head => exact h.1.ne
    | tail _ hq => exact ih h.2 q hq
theorem OwnOf.put {led : List (Addr × Obj)} {a : Addr} {o : Obj} {r own : List (Addr × Obj)} (h : Apart a led) (h' : OwnOf led r own) : OwnOf led ((a, o) :: r) ((a, o) :: own) := .add h.alls h'
/-- every address of the ledger stands beside the tail -/
noncomputable def TlL (tl : List (Addr × Obj)) : List (Addr × Obj) → Prop
  | [] => True
  | q :: r => Apart q.1 tl ∧ TlL tl r
theorem TlL.off {tl : List (Addr × Obj)} {led : List (Addr × Obj)} (h : TlL tl led) : ∀ p ∈ tl, ∀ q ∈ led, q.1 ≠ p.1 := by
  induction led with
  | nil => intro p _ q hq; cases hq
  | cons a r ih =>
    intro p hp q hq
    cases hq with
    | head => exact fun e => h.1.alls p hp e.symm
    | tail _ hq => exact ih h.2 p hp q hq
theorem OwnOf.tail {led tl : List (Addr × Obj)} (h : TlL tl led) : OwnOf led tl tl := by
  have := h.off
  clear h
  induction tl with
  | nil => exact .nil
  | cons p r ih => exact .add (this p (.head _)) (ih fun q hq => this q (.tail _ hq))
/-- own stands beside led -/
noncomputable def OffL (led : List (Addr × Obj)) : List (Addr × Obj) → Prop
  | [] => True
  | p :: r => Apart p.1 led ∧ OffL led r
theorem OffL.off {led own : List (Addr × Obj)} (h : OffL led own) : ∀ p ∈ own, ∀ q ∈ led, q.1 ≠ p.1 := by
  induction own with
  | nil => intro p hp; cases hp
  | cons a r ih =>
    intro p hp
    cases hp with
    | head => exact h.1.alls
    | tail _ hp => exact ih h.2 p hp
theorem Upd.here {a : Addr} {o o' : Obj} {r : List (Addr × Obj)} (h : Apart a r) : Upd a o o' ((a, o) :: r) ((a, o') :: r) := Upd.head h.alls
theorem UpdF.here {a : Addr} {o : Obj} {r : List (Addr × Obj)} (h : Apart a r) : UpdF a o ((a, o) :: r) (fun o' => (a, o') :: r) := UpdF.head h.alls
theorem sub_tail {tl r : List (Addr × Obj)} {p : Addr × Obj} (h : ∀ q ∈ tl, q ∈ r) : ∀ q ∈ tl, q ∈ p :: r := fun q hq => .tail _ (h q hq)
end Mine
namespace Mine
open PySem PySem.W PySem.Calls PySem.Spec PyProof.Rows
/-- what the ledger's addresses say of d, one by one, ahead of P -/
noncomputable def Facts (d : Addr) : List (Addr × Obj) → Prop → Prop
  | [], P => P
  | (a, _) :: r, P => Ap a d → Facts d r P
theorem facts_any {d : Addr} : ∀ {l : List (Addr × Obj)} {P : Prop}, P → Facts d l P
  | [], _, k => k
  | _ :: _, _, k => fun _ => facts_any k
theorem facts_of {d : Addr} : ∀ {l : List (Addr × Obj)} {P : Prop}, Apart d l → Facts d l P → P
  | [], _, _, k => k
  | _ :: _, _, h, k => facts_of h.2 (k h.1)
theorem facts_tail {d : Addr} : ∀ {l : List (Addr × Obj)} {P : Prop}, (Apart d l → P) → Facts d l P
  | [], _, k => k trivial
  | _ :: _, _, k => fun h => facts_tail fun h' => k ⟨h, h'⟩
theorem Apart.tl {d : Addr} {p : Addr × Obj} {r : List (Addr × Obj)} (h : Apart d (p :: r)) : Apart d r := h.2
noncomputable def DFacts : List (Addr × Obj) → Prop → Prop
  | [], P => P
  | (a, _) :: r, P => Facts a r (DFacts r P)
theorem dfacts_any : ∀ {l : List (Addr × Obj)} {P : Prop}, P → DFacts l P
  | [], _, k => k
  | _ :: _, _, k => facts_any (dfacts_any k)
theorem dfacts_of : ∀ {l : List (Addr × Obj)} {P : Prop}, Dist l → DFacts l P → P
  | [], _, _, k => k
  | _ :: _, _, h, k => dfacts_of h.2 (facts_of h.1 k)
theorem dfacts_last {a : Addr} {p : Addr × Obj} {P : Prop} (k : P) : Facts a [] (DFacts [p] P) := k
end Mine
namespace Mine
open PySem PySem.W PySem.Calls PySem.Spec PyProof.Rows
theorem tok_eq {h : Heap} {g : Array GenState} {d : Drawn} {t : Tok} {o : OsState} : (Shared.mk h g d t o).toks + 1 = t + 1 := rfl
theorem set_dictF {prog : Program} {w : World} {A : Around} {E : Value → Shared → Prop} {s : Shared} {K : Frag} {x C dx L : Addr} {h₀ : Heap} {m : Str → Option Value} {news news' : List (Addr × Obj)} {ox od' : Obj} {es es' : List DictEntry} {n n' : Nat} {name : Str} {v : Value} {kk : Tok}
    {Q : Unit → Shared → Prop} (F : Fr h₀ L s.heap m) (X₀ : K.In h₀) (N : News h₀ L s.heap news) (I : InstAt s.heap x ox C (some (dictOf es n))) (hd : ox.dict = some dx)
    (hs : findIn K (.ref C) "__setattr__" = some (some (.builtin "object.__setattr__"))) (hp : plainOver K C = true) (ht : takerIn K C name = some none) (hh : hasDictIn K C = true) (hl : (getL name es).isSome = true) (hkk : s.toks + 1 = kk)
    (e : (putL name (PyData.keyHash w.params name) (.str name kk) v es, putN name es n) = (es', n')) (ef : dictOf es' n' = od') (U : Upd dx (dictOf es n) od' news news') (hz : es'.length ≤ 1000)
    (h : ∀ h', Fr h₀ L h' m → News h₀ L h' news' → Q () { s with heap := h', toks := s.toks + 2 }) :
    wpAny (model prog w) A (setAttr (.ref x) name v) Q E s := by
  subst ef hkk
  exact set_dict F X₀ N I hd hs hp ht hh hl e U hz h
end Mine
namespace Mine
open PySem PySem.W PySem.Calls PySem.Spec PyProof.Rows
/-- names beside values -/
inductive ZipB : List Arg → List Value → List (Str × Value) → Prop
  | nil : ZipB [] [] []
  | cons {n : Str} {an : Option PySem.Expr} {p : Pos} {r : List Arg} {v : Value} {vs : List Value} {b : List (Str × Value)} : ZipB r vs b → ZipB (⟨n, an, p⟩ :: r) (v :: vs) ((n, v) :: b)
theorem bindsZ {s : Shared} {fd : FuncData} {pos : List Value} {kw : List (Str × Value)} {binds : List (Str × Value)} (z9 : ZipB fd.params.args pos binds) (h : bindArgs fd { pos := pos, kw := kw } = pure binds) : BindsTo s fd { pos := pos, kw := kw } binds := BindsTo.of_eq h
end Mine
namespace Mine
open PySem PySem.W PySem.Calls PySem.Spec PyProof.Rows
theorem item_at {prog : Program} {w : World} {A : Around} {E : Value → Shared → Prop} {s : Shared} {value slice : PySem.Expr} {l : Addr} {vs : List Value} {k : Int} {u : Tok} {v : Value} {Q : Value → Shared → Prop}
    (hl : s.heap.IsList l vs.toArray) (h0 : 0 ≤ k) (h1 : k < 2 ^ 63) (hx : vs[k.toNat]? = some v) (h : Q v s)
    (hs : subscripted slice false (.ref l) (.int k u) = operate [.ref l, .int k u] (getItem (.ref l) (.int k u))) :
    wpAny (model prog w) A (subscriptTail value slice (.ref l) (.int k u)) Q E s :=
  tail_any hl.typeIs slot_list_getitem.lookup (wpAny_getItem_list hl h0 h1 (by simpa using hx) h) hs
end Mine
namespace Mine
open PySem PySem.W PySem.Calls PySem.Spec PyProof.Rows
theorem gen_tok {α : Type} {M : Model} {A : Around} {x : Sem α} {Q : α → Shared → Prop} {E : Value → Shared → Prop} {h : Heap} {g : Array GenState} {d : Drawn} {t u : Nat} {o : OsState} (H : ∀ t', wpAny M A x Q E ⟨h, g, d, t', o⟩) : wpAny M A x Q E ⟨h, g, d, t + u, o⟩ := H _
theorem gen_tok3 {α : Type} {M : Model} {A : Around} {x : Sem α} {Q : α → Shared → Prop} {E : Value → Shared → Prop} {h : Heap} {g : Array GenState} {d : Drawn} {t u v y : Nat} {o : OsState} (H : ∀ t', wpAny M A x Q E ⟨h, g, d, t', o⟩) : wpAny M A x Q E ⟨h, g, d, t + u + v + y, o⟩ := H _
end Mine
namespace Mine
open PySem PySem.W PySem.Calls PySem.Spec PyProof.Rows
theorem Apart.consI {d a : Addr} {o : Obj} {r : List (Addr × Obj)} (h : Ap a d) (t : Apart d r) : Apart d ((a, o) :: r) := ⟨h, t⟩
theorem Dist.consI {a : Addr} {o : Obj} {r : List (Addr × Obj)} (h : Apart a r) (t : Dist r) : Dist ((a, o) :: r) := ⟨h, t⟩
end Mine
namespace Mine
open PySem PySem.W PySem.Calls PySem.Spec PyProof.Rows
section
variable {prog : Program} {w : World} {A : Around} {E : Value → Shared → Prop} {s : Shared} {K : Frag} {C L : Addr} {h₀ : Heap} {m : Str → Option Value} {news : List (Addr × Obj)} {Q : Value → Shared → Prop}
theorem call_clsA {pos : List Value} {kw : List (Str × Value)} {fI : Addr} (F : Fr h₀ L s.heap m) (X₀ : K.In h₀) (N : News h₀ L s.heap news) (hm : makesIn K C = true) (hi : findIn K (.ref C) "__init__" = some (some (.ref fI))) (hf : isFn K (.ref fI) = true)
    (h : ∀ x dx h', Fr h₀ L h' m → News h₀ L h' ((x, instObj C dx) :: (dx, dictOf [] 0) :: news) → Apart dx news → Apart x ((dx, dictOf [] 0) :: news) →
      codeAny (model prog w) (A.under (.builtin "type.__call__" ⟨.ref C :: pos, kw⟩)) (.call (.ref fI) ⟨.ref x :: pos, kw⟩) (InitBack x fun r s' => match r with | .ok (.ret v) => Q v s' | .ok _ => False | .error e => E e s') { s with heap := h' }) :
    wpAny (model prog w) A (call (.ref C) pos kw) Q E s := call_cls F X₀ N hm hi hf fun x dx h' F' N' l1 l2 => h x dx h' F' N' (Apart.lt l1) (Apart.lt2 l1 l2)
theorem call_cls0A (F : Fr h₀ L s.heap m) (X₀ : K.In h₀) (N : News h₀ L s.heap news) (hm : makesIn K C = true) (hi : findIn K (.ref C) "__init__" = some (some (.builtin "object.__init__")))
    (h : ∀ x dx h', Fr h₀ L h' m → News h₀ L h' ((x, instObj C dx) :: (dx, dictOf [] 0) :: news) → Apart dx news → Apart x ((dx, dictOf [] 0) :: news) → Q (.ref x) { s with heap := h' }) :
    wpAny (model prog w) A (call (.ref C) [] []) Q E s := call_cls0 F X₀ N hm hi fun x dx h' F' N' l1 l2 => h x dx h' F' N' (Apart.lt l1) (Apart.lt2 l1 l2)
end
end Mine
namespace Mine
open PySem PySem.W PySem.Calls PySem.Spec PyProof.Rows
theorem foldA {α : Type} {M : Model} {A : Around} {x : Sem α} {Q : α → Shared → Prop} {E : Value → Shared → Prop} {s : Shared} (H : let A' := A; wpAny M A' x Q E s) : wpAny M A x Q E s := H
end Mine
namespace Mine
open PySem PySem.W PySem.Calls PySem.Spec PyProof.Rows
theorem foldN {h₀ h : Heap} {L : Addr} {l : List (Addr × Obj)} {G : Prop} (N : News h₀ L h l) (H : let l' := l; News h₀ L h l' → G) : G := H N
/-- the k-th -/
noncomputable def nth {α : Type} : List α → Nat → Option α
  | [], _ => none
  | x :: _, 0 => some x
  | _ :: r, k + 1 => nth r k
theorem memI {x : Addr × Obj} : ∀ {l : List (Addr × Obj)} (k : Nat), nth l k = some x → x ∈ l
  | [], _, h => nomatch h
  | y :: _, 0, h => by cases h; exact .head _
  | _ :: r, k + 1, h => .tail _ (memI (l := r) k h)
end Mine
namespace Mine
open PySem PySem.W PySem.Calls PySem.Spec PyProof.Rows
theorem storeF {M : Model} {A : Around} {E : Value → Shared → Prop} {s : Shared} {h₀ : Heap} {L a : Addr} {m : Str → Option Value} {news : List (Addr × Obj)} {cn : Str} {cs : Scope} {ccd : Value} {cl : List (Str × Addr)} {x : Str} {v : Value} {Q : Unit → Shared → Prop} (F : Fr h₀ L s.heap m) (N : News h₀ L s.heap news)
    (h : ∀ h', let m' := (fun y => if y = x then some v else m y); Fr h₀ L h' m' → News h₀ L h' news → Q () { s with heap := h', toks := s.toks + 1 })
    (hk : cs.kind = .function) (hx : (envX cn cs L a ccd cl).kindOf x = some .local) : wpAny M A (storeName (envX cn cs L a ccd cl) x v) Q E s := storeX_L F N (fun h' F' N' => h h' F' N') hk hx
end Mine
end
section
namespace Mine
open PySem PySem.W PySem.Calls PySem.Spec PyProof.Rows PyProof.V
theorem AllLt.alls {d : Addr} {l : List (Addr × Obj)} (h : AllLt d l) : ∀ q ∈ l, q.1 ≠ d := (AllLt.apart h).alls
theorem OwnOf.rest {led tl : List (Addr × Obj)} (h : ∀ p ∈ tl, ∀ q ∈ led, q.1 ≠ p.1) : OwnOf led tl tl := by
  induction tl with
  | nil => exact .nil
  | cons p r ih => exact .add (h p (.head _)) (ih fun q hq => h q (.tail _ hq))
theorem offT_nil {tl : List (Addr × Obj)} : ∀ p ∈ tl, ∀ q ∈ ([] : List (Addr × Obj)), q.1 ≠ p.1 := fun _ _ _ hq => nomatch hq
theorem offT_cons {tl led : List (Addr × Obj)} {a : Addr} {o : Obj} (h : ∀ q ∈ tl, q.1 ≠ a) (h' : ∀ p ∈ tl, ∀ q ∈ led, q.1 ≠ p.1) : ∀ p ∈ tl, ∀ q ∈ (a, o) :: led, q.1 ≠ p.1 := fun p hp q hq => by
  rcases List.mem_cons.mp hq with rfl | hq
  · exact fun e => h p hp e.symm
  · exact h' p hp q hq

section
variable {prog : Program} {w : World} {A : Around} {E : Value → Shared → Prop} {s : Shared} {env : Env} {h₀ : Heap} {x : Str} {body : List Stmt} {Q : Flow → Shared → Prop} {target : Expr}

/-- a turn's end over a ledger that may have grown; own: what the loop itself keeps -/
noncomputable def EndJ (h₀ : Heap) (L : Addr) (Jn : (Str → Option Value) → List (Addr × Obj) → Prop) (own : List (Addr × Obj)) (s₁ s₂ : Shared) : Prop :=
  ∃ h' tk m' news' nx, s₂ = { s₁ with heap := h', toks := tk } ∧ Fr h₀ L h' m' ∧ News h₀ L h' news' ∧ (∀ p ∈ nx, p ∈ news') ∧ (∀ p ∈ own, p ∈ news') ∧ (∀ q ∈ own, ∀ p ∈ nx, p.1 ≠ q.1) ∧ Jn m' nx
noncomputable def PostJ (h₀ : Heap) (L : Addr) (Jn : (Str → Option Value) → List (Addr × Obj) → Prop) (own : List (Addr × Obj)) (s₁ : Shared) (Q : Flow → Shared → Prop) (f : Flow) (s₂ : Shared) : Prop :=
  match f with
  | .ret v => Q (.ret v) s₂
  | .brk => Q .next s₂
  | _ => EndJ h₀ L Jn own s₁ s₂
theorem EndJ.intro {L : Addr} {Jn : (Str → Option Value) → List (Addr × Obj) → Prop} {m' : Str → Option Value} {own news' nx : List (Addr × Obj)} {s₁ : Shared} {h' : Heap} {tk : Nat} (F : Fr h₀ L h' m') (N : News h₀ L h' news')
    (hn : ∀ p ∈ nx, p ∈ news') (ho : ∀ p ∈ own, p ∈ news') (hd : ∀ q ∈ own, ∀ p ∈ nx, p.1 ≠ q.1) (hj : Jn m' nx) : EndJ h₀ L Jn own s₁ { s₁ with heap := h', toks := tk } := ⟨h', tk, m', news', nx, rfl, F, N, hn, ho, hd, hj⟩

theorem range_J {r : Addr} {b₀ : Int} {t₀ u₀ v₀ : Tok} {n : Nat} {m₀ : Str → Option Value} {news : List (Addr × Obj)} (J : Nat → (Str → Option Value) → List (Addr × Obj) → Prop)
    (hh : A.handled = none) (hr : IsRange s.heap r 0 b₀ 1 t₀ u₀ v₀) (hsmall : Builtin.Range.small 0 b₀ 1 = true) (hn : Builtin.Range.rangeSize 0 b₀ 1 = (n : Int)) (F : Fr h₀ env.locals s.heap m₀) (N : News h₀ env.locals s.heap news) (hj : J 0 m₀ news)
    (turn : ∀ i t m₁ news₁ h tk I oI, i < n → J i m₁ news₁ → (∀ p ∈ news₁, p.1 ≠ I) →
      Fr h₀ env.locals h (fun y => if y = x then some (.int ((i : Nat) : Int) t) else m₁ y) → News h₀ env.locals h ((I, oI) :: news₁) →
      wpAny (model prog w) A (execs body env) (PostJ h₀ env.locals (J (i + 1)) [(I, oI)] { s with heap := h, toks := tk } Q) E { s with heap := h, toks := tk })
    (done : ∀ m₁ news₁ h tk, J n m₁ news₁ → Fr h₀ env.locals h m₁ → News h₀ env.locals h news₁ → Q .next { s with heap := h, toks := tk }) :
    wpAny (model prog w) A (pyIter (.ref r)) (fun it s₂ => LoopAtV prog w A h₀ env x body Q E it s₂) E s := by
  refine wpAny_pyIter_range hr hsmall ?_
  have W : Walks prog w A s.heap.objs.size [s.heap.objs.size] [s.heap.objs.size] n (fun i v => i < n ∧ ∃ t, v = .int (0 + i * 1) t)
      (fun i h => IsRangeIter h s.heap.objs.size (0 + (i : Nat) * 1) ((n : Int) - (i : Nat)) 1) := (Walks.range hh _ 0 1 n).bound
  refine ⟨_, _, _, n, _, _, m₀, news, J, rfl, W, ?_, ?_, ?_, (by show IsRangeIter _ _ _ _ _; rw [hn]; simpa using Heap.get?_push_size _ rfl), (F.push _), (fun p hp => ⟨Heap.get?_push_of_some _ (N p hp).1, (N p hp).2⟩), hj, ?_, ?_⟩
  · intro hm
    exact absurd F.ns.lt ((List.mem_singleton.mp hm) ▸ Nat.lt_irrefl _)
  · intro b hb
    rw [List.mem_singleton.mp hb]
    exact next_is_new F
  · intro p hp hI
    exact absurd (Heap.lt_size (N p hp).1) ((List.mem_singleton.mp hI) ▸ Nat.lt_irrefl _)
  · rintro i v m₁ news₁ s₁ own ⟨hh', tk', rfl⟩ hin ⟨_, t, rfl⟩ hJ hoff hown _ hall hs F₁ N₁
    have e1 : (0 : Int) + (i : Int) * 1 = ((i : Nat) : Int) := by omega
    rw [e1] at F₁
    generalize hI : s.heap.objs.size = I at *
    obtain ⟨oI, hoI⟩ : ∃ o, hh'.get? I = some o := ⟨_, hs⟩
    have hI₀ : h₀.get? I = none := hI ▸ next_is_new F
    have hmem : (I, oI) ∈ own := hall I (.head _) hI₀ oI hoI
    have own1 : ∀ p ∈ own, p = (I, oI) := fun p hp => by
      have a := N₁ p (List.mem_append.mpr (.inl hp))
      have b : p.1 = I := List.mem_singleton.mp (hown p hp)
      have c := a.1
      rw [b] at c
      exact Prod.ext b (Option.some.inj (c.symm.trans hoI))
    have NI : News h₀ env.locals hh' ((I, oI) :: news₁) := fun p hp => by
      rcases List.mem_cons.mp hp with rfl | hp
      · exact N₁ _ (List.mem_append.mpr (.inl hmem))
      · exact N₁ p (List.mem_append.mpr (.inr hp))
    refine wpAny_mono (turn i t m₁ news₁ hh' tk' I oI hin hJ (fun p hp e => hoff p hp (e ▸ .head _)) F₁ NI) (fun f s₂ p => ?_) fun _ _ e => e
    have fin : EndJ h₀ env.locals (J (i + 1)) [(I, oI)] { s with heap := hh', toks := tk' } s₂ → LoopStepU h₀ env.locals [I] own (J (i + 1)) { s with heap := hh', toks := tk' } .next s₂ := by
      rintro ⟨h', tk, m', news', nx, e, F', N', hn, ho, hd, hm⟩
      refine ⟨rfl, h', tk, m', nx, e, F', fun p hp => ?_, fun p hp hq => ?_, hm⟩
      · rcases List.mem_append.mp hp with hp | hp
        · obtain rfl := own1 p hp
          exact N' _ (ho _ (.head _))
        · exact N' p (hn p hp)
      · exact hd _ (.head _) p hp (List.mem_singleton.mp hq)
    cases f with
    | ret v => exact .ret p
    | brk => exact .brk p
    | next => exact .next (fin p)
    | cont => exact .cont (fin p)
  · rintro h' tk m' news' F' N' _ hJ
    exact done m' news' h' tk hJ F' N'

/-- a list of the ledger itself, walked with a target of several names -/
theorem listT_J {l : Addr} {nn : Nat} {its : List Value} {m₀ : Str → Option Value} {news : List (Addr × Obj)} (J : Nat → (Str → Option Value) → List (Addr × Obj) → Prop)
    (hh : A.handled = none) (F : Fr h₀ env.locals s.heap m₀) (N : News h₀ env.locals s.heap ((l, listOf its.toArray nn) :: news)) (hln : ∀ p ∈ news, p.1 ≠ l) (hj : J 0 m₀ news)
    (turn : ∀ i v m₁ news₁ s₁ I oI ol, its[i]? = some v → J i m₁ news₁ → (∀ p ∈ news₁, p.1 ≠ I) → (∀ p ∈ news₁, p.1 ≠ l) → (@Ne Nat I l) →
      Fr h₀ env.locals s₁.heap m₁ → News h₀ env.locals s₁.heap ((I, oI) :: (l, ol) :: news₁) →
      wpAny (model prog w) A (assign target env v) (fun _ s₃ => wpAny (model prog w) A (execs body env) (fun f s₄ => f = .next ∧ EndJ h₀ env.locals (J (i + 1)) [(I, oI), (l, ol)] s₁ s₄) E s₃) E s₁)
    (done : ∀ m₁ news₁ h tk, J its.length m₁ news₁ → Fr h₀ env.locals h m₁ → News h₀ env.locals h news₁ → Q .next { s with heap := h, toks := tk }) :
    wpAny (model prog w) A (pyIter (.ref l)) (fun it s₂ => LoopAtT prog w A h₀ env target body Q E it s₂) E s := by
  have hN := N _ (.head _)
  have hls : s.heap.IsList l its.toArray := News.isList N (.head _)
  have hlt : l < s.heap.objs.size := Heap.lt_size hN.1
  have hne : l ≠ s.heap.objs.size := Nat.ne_of_lt hlt
  refine wpAny_pyIter_list hls ?_
  have W := Walks.list (prog := prog) (w := w) hh s.heap.objs.size l hne its.toArray
  have hlen : its.toArray.size = its.length := by simp
  rw [hlen] at W
  refine ⟨_, _, _, its.length, _, _, m₀, news, fun i m nx => (∀ p ∈ nx, p.1 ≠ l) ∧ J i m nx, rfl, W, ?_, ?_, ?_, ⟨⟨_, Heap.get?_push_size _ rfl, rfl, rfl⟩, hls.at fun o e => Heap.get?_push_of_some _ e⟩, F.push _,
    (fun p hp => ⟨Heap.get?_push_of_some _ (N p (.tail _ hp)).1, (N p (.tail _ hp)).2⟩), (fun i s' v Q' st hQ' => letGo_listiter st.1 hQ'), ⟨hln, hj⟩, ?_, ?_⟩
  · intro hm
    rcases List.mem_cons.mp hm with e | hm
    · exact absurd F.ns.lt (e ▸ Nat.lt_irrefl _)
    · exact hN.2.1 (List.mem_singleton.mp hm).symm
  · intro b hb
    rw [List.mem_singleton.mp hb]
    exact next_is_new F
  · intro p hp hI
    exact absurd (Heap.lt_size (N p (.tail _ hp)).1) ((List.mem_singleton.mp hI) ▸ Nat.lt_irrefl _)
  · rintro i v m₁ news₁ s₁ own hin hP ⟨hnl, hJ⟩ hoff hown _ hall hs F₁ N₁
    generalize hI : s.heap.objs.size = I at *
    have hI₀ : h₀.get? I = none := hI ▸ next_is_new F
    have hP' : its[i]? = some v := by simpa using hP
    obtain ⟨⟨oI, hoI, _⟩, ⟨ol, hol, _⟩⟩ := hs
    have memI : (I, oI) ∈ own := hall I (.head _) hI₀ oI hoI
    have meml : (l, ol) ∈ own := hall l (.tail _ (.head _)) hN.2.2 ol hol
    have own1 : ∀ p ∈ own, p ∈ [(I, oI), (l, ol)] := fun p hp => by
      have c := (N₁ p (List.mem_append.mpr (.inl hp))).1
      rcases List.mem_cons.mp (hown p hp) with b | b
      · rw [b] at c
        rw [Prod.ext (y := (I, oI)) b (Option.some.inj (c.symm.trans hoI))]
        exact .head _
      · have b := List.mem_singleton.mp b
        rw [b] at c
        rw [Prod.ext (y := (l, ol)) b (Option.some.inj (c.symm.trans hol))]
        exact .tail _ (.head _)
    have NI : News h₀ env.locals s₁.heap ((I, oI) :: (l, ol) :: news₁) := fun p hp => by
      rcases List.mem_cons.mp hp with rfl | hp
      · exact N₁ _ (List.mem_append.mpr (.inl memI))
      · rcases List.mem_cons.mp hp with rfl | hp
        · exact N₁ _ (List.mem_append.mpr (.inl meml))
        · exact N₁ p (List.mem_append.mpr (.inr hp))
    refine wpAny_mono (turn i v m₁ news₁ s₁ I oI ol hP' hJ (fun p hp e => hoff p hp (e ▸ .head _)) hnl hne.symm F₁ NI) (fun _ s₂ p => wpAny_mono p (fun f s₃ p => ?_) fun _ _ e => e) fun _ _ e => e
    obtain ⟨rfl, h', tk, m', news', nx, e, F', N', hn, ho, hd, hm⟩ := p
    refine ⟨rfl, h', tk, m', nx, e, F', fun p hp => ?_, fun p hp hq => ?_, fun p hp => ?_, hm⟩
    · rcases List.mem_append.mp hp with hp | hp
      · exact N' _ (ho _ (own1 p hp))
      · exact N' p (hn p hp)
    · exact hd _ (.head _) p hp (List.mem_singleton.mp hq)
    · exact hd _ (.tail _ (.head _)) p hp
  · rintro h' tk m' news' F' N' _ ⟨_, hJ⟩
    exact done m' news' h' tk hJ F' N'

noncomputable def JS {σ : Type} (Led : σ → List (Addr × Obj)) (ps : σ → List (Str × Value)) (free : Str → Bool) (m₀ : Str → Option Value) (P : Nat → σ → Prop) (i : Nat) (m : Str → Option Value) (nx : List (Addr × Obj)) : Prop :=
  ∃ c : σ, nx = Led c ∧ (∀ p ∈ ps c, m p.1 = some p.2) ∧ (∀ z, (∀ p ∈ ps c, z ≠ p.1) → free z = false → m z = m₀ z) ∧ P i c
theorem js_map {ps : List (Str × Value)} {free : Str → Bool} {m₀ m₁ : Str → Option Value} (h1 : ∀ p ∈ ps, m₁ p.1 = some p.2) (h2 : ∀ z, (∀ p ∈ ps, z ≠ p.1) → free z = false → m₁ z = m₀ z) :
    (fun y => kstB (fun z => if free z then m₁ z else m₀ z) ps y) = m₁ := by
  funext y
  refine kstB_eq h1 fun hn => ?_
  show (if free y = true then m₁ y else m₀ y) = m₁ y
  cases h3 : free y with
  | true => simp
  | false => simp only [Bool.false_eq_true, if_false]; exact (h2 y hn h3).symm
theorem JS.intro {σ : Type} {Led : σ → List (Addr × Obj)} {ps : σ → List (Str × Value)} {free : Str → Bool} {m₀ m : Str → Option Value} {P : Nat → σ → Prop} {i : Nat} (c : σ) (h1 : ∀ p ∈ ps c, m p.1 = some p.2) (h2 : ∀ z, (∀ p ∈ ps c, z ≠ p.1) → free z = false → m z = m₀ z) (hp : P i c) :
    JS Led ps free m₀ P i m (Led c) := ⟨c, rfl, h1, h2, hp⟩

theorem range_S {σ : Type} {r : Addr} {b₀ : Int} {t₀ u₀ v₀ : Tok} {n : Nat} {m₀ : Str → Option Value} (Led : σ → List (Addr × Obj)) (ps : σ → List (Str × Value)) (free : Str → Bool) (P : Nat → σ → Prop) (c₀ : σ) 
    (hh : A.handled = none) (hr : IsRange s.heap r 0 b₀ 1 t₀ u₀ v₀) (hsmall : Builtin.Range.small 0 b₀ 1 = true) (hn : Builtin.Range.rangeSize 0 b₀ 1 = (n : Int)) (F : Fr h₀ env.locals s.heap m₀) (N : News h₀ env.locals s.heap (Led c₀)) (hk : ∀ p ∈ ps c₀, m₀ p.1 = some p.2) (hp : P 0 c₀)
    (turn : ∀ (c : σ) i t (u : Str → Option Value) h tk I oI (R : Flow → Shared → Prop), (∀ f s₂, PostJ h₀ env.locals (JS Led ps free m₀ P (i + 1)) [(I, oI)] { s with heap := h, toks := tk } Q f s₂ → R f s₂) → i < n → P i c → (∀ p ∈ Led c, p.1 ≠ I) →
      Fr h₀ env.locals h (fun y => if y = x then some (.int ((i : Nat) : Int) t) else kstB (fun z => if free z then u z else m₀ z) (ps c) y) → News h₀ env.locals h ((I, oI) :: Led c) →
      wpAny (model prog w) A (execs body env) R E { s with heap := h, toks := tk })
    (done : ∀ (c : σ) (u : Str → Option Value) h tk, P n c → Fr h₀ env.locals h (fun y => kstB (fun z => if free z then u z else m₀ z) (ps c) y) → News h₀ env.locals h (Led c) → Q .next { s with heap := h, toks := tk }) :
    wpAny (model prog w) A (pyIter (.ref r)) (fun it s₂ => LoopAtV prog w A h₀ env x body Q E it s₂) E s := by
  refine range_J (JS Led ps free m₀ P) hh hr hsmall hn F N (.intro c₀ hk (fun _ _ _ => rfl) hp) ?_ ?_
  · rintro i t m₁ nx h tk I oI hin ⟨c, rfl, h1, h2, hp'⟩ hI F₁ N₁
    have e := js_map h1 h2
    refine turn c i t m₁ h tk I oI _ (fun _ _ y => y) hin hp' hI ?_ N₁
    have e' : (fun y => if y = x then some (Value.int ((i : Nat) : Int) t) else kstB (fun z => if free z then m₁ z else m₀ z) (ps c) y) = fun y => if y = x then some (Value.int ((i : Nat) : Int) t) else m₁ y := by
      funext y
      exact congrArg (fun z => if y = x then some (Value.int ((i : Nat) : Int) t) else z) (congrFun e y)
    rw [e']
    exact F₁
  · rintro m₁ nx h tk ⟨c, rfl, h1, h2, hp'⟩ F₁ N₁
    exact done c m₁ h tk hp' ((js_map h1 h2).symm ▸ F₁) N₁

theorem listT_S {σ : Type} {l : Addr} {nn : Nat} {its : List Value} {m₀ : Str → Option Value} (Led : σ → List (Addr × Obj)) (ps : σ → List (Str × Value)) (free : Str → Bool) (P : Nat → σ → Prop) (c₀ : σ)
    (hh : A.handled = none) (F : Fr h₀ env.locals s.heap m₀) (N : News h₀ env.locals s.heap ((l, listOf its.toArray nn) :: Led c₀)) (hln : ∀ p ∈ Led c₀, p.1 ≠ l) (hk : ∀ p ∈ ps c₀, m₀ p.1 = some p.2) (hp : P 0 c₀)
    (turn : ∀ (c : σ) i v (u : Str → Option Value) s₁ I oI ol (R : Flow → Shared → Prop), (∀ f s₄, f = .next ∧ EndJ h₀ env.locals (JS Led ps free m₀ P (i + 1)) [(I, oI), (l, ol)] s₁ s₄ → R f s₄) → its[i]? = some v → P i c → (∀ p ∈ Led c, p.1 ≠ I) → (∀ p ∈ Led c, p.1 ≠ l) → (@Ne Nat I l) →
      Fr h₀ env.locals s₁.heap (fun y => kstB (fun z => if free z then u z else m₀ z) (ps c) y) → News h₀ env.locals s₁.heap ((I, oI) :: (l, ol) :: Led c) →
      wpAny (model prog w) A (assign target env v) (fun _ s₃ => wpAny (model prog w) A (execs body env) R E s₃) E s₁)
    (done : ∀ (c : σ) (u : Str → Option Value) h tk, P its.length c → Fr h₀ env.locals h (fun y => kstB (fun z => if free z then u z else m₀ z) (ps c) y) → News h₀ env.locals h (Led c) → Q .next { s with heap := h, toks := tk }) :
    wpAny (model prog w) A (pyIter (.ref l)) (fun it s₂ => LoopAtT prog w A h₀ env target body Q E it s₂) E s := by
  refine listT_J (JS Led ps free m₀ P) hh F N hln (.intro c₀ hk (fun _ _ _ => rfl) hp) ?_ ?_
  · rintro i v m₁ nx s₁ I oI ol hv ⟨c, rfl, h1, h2, hp'⟩ hI hl hne F₁ N₁
    exact turn c i v m₁ s₁ I oI ol _ (fun _ _ y => y) hv hp' hI hl hne ((js_map h1 h2).symm ▸ F₁) N₁
  · rintro m₁ nx h tk ⟨c, rfl, h1, h2, hp'⟩ F₁ N₁
    exact done c m₁ h tk hp' ((js_map h1 h2).symm ▸ F₁) N₁
end
/-- the walk stops here -/
structure Stop (P : Prop) : Prop where
  go : P
theorem newsSub {h₀ h : Heap} {L : Addr} {a b : List (Addr × Obj)} (N : News h₀ L h a) (hs : ∀ p ∈ b, p ∈ a) : News h₀ L h b := fun p hp => N p (hs p hp)
theorem sub_refl {l : List (Addr × Obj)} : ∀ q ∈ l, q ∈ l := fun _ h => h
theorem news_ne {h₀ h : Heap} {L : Addr} {l : List (Addr × Obj)} {a b : Addr} {o o' : Obj} (N : News h₀ L h l) (hp : (a, o) ∈ l) (hq : (b, o') ∈ l) (hc : o.cls ≠ o'.cls) : a ≠ b := fun q => by
  have x := (N _ hp).1
  have y := (N _ hq).1
  dsimp only at x y
  rw [q, y] at x
  exact hc (congrArg Obj.cls (Option.some.inj x)).symm
theorem tup_list : (Value.type "tuple") ≠ (Value.type "list") := fun h => absurd (Value.type.inj h) (by decide)
end Mine
end
section
namespace Mine
open PySem PySem.W PySem.Calls PyProof.Rows
noncomputable def topRunT (tb : String → Option Builtin) (p : Program) (w : World) (n₀ : Nat) (ann : Option Value) : Nat → SharedT → Thread → Option SharedT
  | 0, _, _ => none
  | n + 1, s, t => match through t with
    | true => some s
    | false => match stepOk n₀ ann t with
      | false => none
      | true => match stepT (denote tb) p w s t with
        | some (s', t') => topRunT tb p w n₀ ann n s' t'
        | none => none
theorem topRun_of {tb : String → Option Builtin} {p : Program} {w : World} {n₀ : Nat} {ann : Option Value} : ∀ {n : Nat} {s s' : SharedT} {t : Thread}, topRunT tb p w n₀ ann n s t = some s' → topRun tb p w n₀ ann n s.abs t = some s'.abs
  | 0, _, _, _, h => by cases h
  | n + 1, s, s', t, h => by
    unfold topRunT at h
    unfold topRun
    cases ht : through t with
    | true => rw [ht] at h; cases h; rfl
    | false =>
      rw [ht] at h
      cases hk : stepOk n₀ ann t with
      | false => rw [hk] at h; cases h
      | true =>
        rw [hk] at h
        cases hs : stepT (denote tb) p w s t with
        | none => rw [hs] at h; cases h
        | some r => obtain ⟨s₂, t₂⟩ := r; rw [hs] at h; rw [stepT_spec hs]; exact topRun_of h
noncomputable def treeOf (os : List Obj) : Nat → Nat → Nat → BT
  | 0, _, _ => .nil
  | k + 1, a, b => match os[b]? with
    | some o => .node o (treeOf os k (2 * a) (a + b)) (treeOf os k (2 * a) (2 * a + b))
    | none => .nil
noncomputable def pr : Program := PySem.Challenge.rw_xm0959_01.row.toRowW.prog
noncomputable def s0T (P : Params) (os : OsState) : SharedT := ⟨treeOf (boot_heap P).objs.toList 12 1 0, (boot_heap P).objs.size, (boot_heap P).life, #[], boot_drawn, boot_toks, os⟩
noncomputable def looksA (p q : Program) (loose : List Str) (as : List Addr) (recs : WRecords) (H₀ : Heap) (s : Shared) :=
  ((staticsOk (importedModules p.main.body) H₀ s.heap && namesBound p s.heap && gensDone s && laidKept H₀ s.heap),
    openSeen q loose (importedModules p.main.body) (fun s => xlAt q [] s && recOk recs s) true s, as.map s.heap.get?)
noncomputable def looksA1 (p : Program) (H₀ : Heap) (s : Shared) : Bool := staticsOk (importedModules p.main.body) H₀ s.heap && namesBound p s.heap && gensDone s && laidKept H₀ s.heap
noncomputable def looksB1 (q : Program) (s : Shared) := (seen ((recsOf q).map (·.name)) (ownsOf q) [] { s with gens := #[] }, s.heap.bltView)
noncomputable def goodB1 (q : Program) := (expectedOf q, bltViewBooted)
noncomputable def looksB2 (p q : Program) (loose : List Str) (recs : WRecords) (s : Shared) : Bool := s.heap.keysOk (looseW q loose) ((recsOf q).map (·.name)) ((litsOf q).map (·.1)) ((clssOf q (looseW q loose)).map (·.name)) && s.heap.accountedOkI (importedModules p.main.body) && s.heap.isNs mainGlobals && s.heap.isNs builtinsNs && tablesOk q s.heap && (fun s => xlAt q [] s && recOk recs s) s && (if true then s.gens.size == 0 else !leftWithCleanup s.gens)
noncomputable def looksB3 (q : Program) (loose : List Str) (s : Shared) := (tabsOk q s, pinSeenD q (drecsOf q) s, plainSeenE q (looseW q loose) s, plainSeenD q loose s, wideSeen q s, clsSeenW q loose s)
noncomputable def goodB3 (q : Program) (loose : List Str) := (true, pinGoodD (drecsOf q), plainGoodE q (looseW q loose), plainGoodD q loose, wideGood q, clsGoodW q loose)
theorem looksB {p q : Program} {loose : List Str} {recs : WRecords} {s : Shared} (e1 : looksB1 q s = goodB1 q) (e2 : looksB2 p q loose recs s = true) (e3 : looksB3 q loose s = goodB3 q loose) :
    openSeen q loose (importedModules p.main.body) (fun s => xlAt q [] s && recOk recs s) true s = openGood q loose := by
  have a1 := congrArg Prod.fst e1
  have a2 := congrArg Prod.snd e1
  show ((looksB1 q s).1, (looksB1 q s).2, looksB2 p q loose recs s, looksB3 q loose s) = ((goodB1 q).1, (goodB1 q).2, true, goodB3 q loose)
  rw [a1, a2, e2, e3]
noncomputable def looksA3 (as : List Addr) (s : Shared) : List (Option Obj) := as.map s.heap.get?
theorem left_of {p q : Program} {loose : List Str} {as : List Addr} {recs : WRecords} {H₀ : Params → Heap} {d₀ : Drawn} {k₀ n₀ N : Nat} {ann : Option Value} {Ya : World → List (Option Obj)} {s0 : Params → OsState → SharedT}
    (open_ : ∀ w : World, (fencedOpening treeTable p w N).map (fun s => (s.heap, s.gens, s.drawn, s.toks)) = some (H₀ w.params, Array.mk [], d₀, k₀))
    (hz : ∀ P, ((H₀ P).isNs mainGlobals && (Array.mk ([] : List GenState)).size == 0) = true ∧ (H₀ P).objs.size = n₀ ∧ (H₀ P).nsMap mainGlobals "__annotations__" = ann)
    (hs0 : ∀ P os, (s0 P os).abs = ⟨H₀ P, Array.mk [], d₀, k₀, os⟩)
    (ev : ∀ (w : World) (os : OsState), (topRunT treeTable p w n₀ ann N (s0 w.params os) (topStub p)).map (fun s => looksA p q loose as recs (H₀ w.params) s.abs) = some (true, openGood q loose, Ya w)) :
    LeftO p q loose (fun s => xlAt q [] s && recOk recs s) (fun s => as.map s.heap.get?) Ya N := fun w => by
  obtain ⟨⟨h, gs, d, k, os⟩, e, e'⟩ := Option.map_eq_some_iff.mp (open_ w)
  obtain ⟨rfl, rfl, rfl, rfl⟩ : h = H₀ w.params ∧ gs = Array.mk [] ∧ d = d₀ ∧ k = k₀ := by simpa using e'
  obtain ⟨sT, hr, hl⟩ := Option.map_eq_some_iff.mp (ev w os)
  have hrun := topRun_of hr
  rw [hs0] at hrun
  obtain ⟨l1, hl2⟩ := Prod.mk.inj hl
  obtain ⟨l2, l3⟩ := Prod.mk.inj hl2
  obtain ⟨z1, z2, z3⟩ := hz w.params
  have t : topFrom treeTable p w N ⟨H₀ w.params, Array.mk [], d, k, os⟩ = some sT.abs := by
    unfold topFrom
    dsimp only
    rw [z1, z2, z3, hrun]
    show (match staticsOk (importedModules p.main.body) (H₀ w.params) sT.abs.heap && namesBound p sT.abs.heap && gensDone sT.abs && laidKept (H₀ w.params) sT.abs.heap with | true => _ | false => _) = _
    rw [l1]
  unfold openEnds
  rw [e]
  show (topFrom treeTable p w N _).map _ = _
  rw [t]
  exact congrArg some (Prod.ext l2 l3)
theorem ev_of {p q : Program} {loose : List Str} {as : List Addr} {recs : WRecords} {H₀ : Params → Heap} {n₀ N : Nat} {ann : Option Value} {Ya : World → List (Option Obj)} {s0 : Params → OsState → SharedT}
    {run' : (String → Option Builtin) → Program → World → Nat → Option Value → Nat → SharedT → Thread → Option SharedT} {tab' : String → Option Builtin} (h1 : topRunT = run') (h2 : treeTable = tab') {l1 : _} (g1 : looksA1 = l1) {l2 : _} (g2 : looksB1 = l2) {l4 : _} (g4 : looksB2 = l4) {l5 : _} (g5 : looksB3 = l5) {l3 : _} (g3 : looksA3 = l3) {good' : _} (h4 : goodB1 = good') {good3 : _} (h5 : goodB3 = good3)
    (e1 : ∀ (w : World) (os : OsState), (run' tab' p w n₀ ann N (s0 w.params os) (topStub p)).map (fun s => l1 p (H₀ w.params) s.abs) = some true)
    (e2 : ∀ (w : World) (os : OsState), (run' tab' p w n₀ ann N (s0 w.params os) (topStub p)).map (fun s => l2 q s.abs) = some (good' q))
    (e4 : ∀ (w : World) (os : OsState), (run' tab' p w n₀ ann N (s0 w.params os) (topStub p)).map (fun s => l4 p q loose recs s.abs) = some true)
    (e5 : ∀ (w : World) (os : OsState), (run' tab' p w n₀ ann N (s0 w.params os) (topStub p)).map (fun s => l5 q loose s.abs) = some (good3 q loose))
    (e3 : ∀ (w : World) (os : OsState), (run' tab' p w n₀ ann N (s0 w.params os) (topStub p)).map (fun s => l3 as s.abs) = some (Ya w)) :
    ∀ (w : World) (os : OsState), (topRunT treeTable p w n₀ ann N (s0 w.params os) (topStub p)).map (fun s => looksA p q loose as recs (H₀ w.params) s.abs) = some (true, openGood q loose, Ya w) := by
  subst h1 h2 g1 g2 g3 g4 g5 h4 h5
  intro w os
  obtain ⟨s, hs, a1⟩ := Option.map_eq_some_iff.mp (e1 w os)
  have a2 := e2 w os
  have a3 := e3 w os
  have a4 := e4 w os
  have a5 := e5 w os
  rw [hs] at a2 a3 a4 a5 ⊢
  have b2 := looksB (p := p) (q := q) (loose := loose) (recs := recs) (s := s.abs) (Option.some.inj a2) (Option.some.inj a4) (Option.some.inj a5)
  have b3 : looksA3 as s.abs = Ya w := Option.some.inj a3
  show some ((looksA1 p (H₀ w.params) s.abs), openSeen q loose (importedModules p.main.body) (fun s => xlAt q [] s && recOk recs s) true s.abs, (looksA3 as s.abs)) = _
  have b1 : looksA1 p (H₀ w.params) s.abs = true := a1
  rw [b1, b2, b3]
end Mine
end
section
namespace Mine
open PySem PySem.W PySem.Calls PyProof.Rows
noncomputable def vs (s : String) (t : Tok) : Value := .str (Str.ofString s) t
noncomputable def vi (n : Int) (t : Tok) : Value := .int n t
noncomputable def vr (a : Addr) : Value := .ref a
noncomputable def en (P : Params) (k : String) (t : Tok) (v : Value) : DictEntry := { hash := PyData.keyHash P (Str.ofString k), key := .str (Str.ofString k) t, val := v }
noncomputable def tst (i : Nat) : Stmt := (PySem.Challenge.rw_xm0959_01.row.prog).main.body.getD i default
noncomputable def mst (i j : Nat) : Stmt := match tst i with
  | .ClassDef _ _ _ b _ _ _ _ _ _ _ => b.getD j default
  | s => s
noncomputable def fo (s : Stmt) (q m : String) (t : Tok) (c : Addr) (cl : List (Str × Addr) := []) (df : Value := .none) (ct : Value := .none) : Obj := match s with
  | .FunctionDef n a b _ _ _ sc _ _ _ => { cls := .type "function", data := .func { name := n, qualname := Str.ofString q, params := a, body := .stmts b, scope := sc, globals := 3, closure := cl, defaults := df, kwdefaults := .none, pyModule := .str (Str.ofString m) t, code := .ref c, closureTuple := ct } }
  | _ => default
noncomputable def K9 (P : Params) : Frag :=
  (nat_lit 2, { cls := Value.none, data := Data.dict #[en P "type.__subclasses__.Exception.0" 407 (vi 132 0), en P "type.__subclasses__.Exception.n" 408 (vi 1 0)] 2 }) ::
  (nat_lit 3, { cls := Value.type "dict", data := Data.dict #[en P "__name__" 165 (vs "law_xm0959_01" 1097), en P "__doc__" 166 (Value.none), en P "__package__" 167 (Value.none), en P "__loader__" 168 (Value.builtin "__main__.__loader__#opaque"), en P "__spec__" 169 (Value.none), en P "__annotations__" 170 (vr 6), en P "__builtins__" 171 (vr 4), en P "__file__" 173 (vs "/claim/cut.py" 172), en P "__cached__" 174 (Value.none), en P "ONE" 190 (vs "one" 189), en P "WAYS" 192 (vs "ways" 191), en P "SPLIT" 194 (vs "split" 193), en P "JUMP" 196 (vs "jump" 195), en P "MARK" 198 (vs "mark" 197), en P "NAME" 200 (vs "name" 199), en P "SET" 202 (vs "set" 201), en P "GAIN" 204 (vs "gain" 203), en P "PLACE" 206 (vs "place" 205), en P "ASK" 208 (vs "ask" 207), en P "FENCE" 210 (vs "fence" 209), en P "FAIL" 212 (vs "fail" 211), en P "ABORT" 214 (vs "abort" 213), en P "SUCCEED" 216 (vs "succeed" 215), en P "DONE" 218 (vs "done" 217), en P "PUT" 220 (vs "put" 219), en P "EMIT" 222 (vs "emit" 221), en P "OPEN" 224 (vs "open" 223), en P "SHUT" 226 (vs "shut" 225), en P "MEET" 228 (vs "meet" 227), en P "SINGLE" 240 (vr 15), en P "ALONE" 245 (vr 16), en P "row_of" 256 (vr 23), en P "is_plain_text" 263 (vr 30), en P "with_texts_joined" 272 (vr 37), en P "PatternCode" 356 (vr 94), en P "straightened" 366 (vr 105), en P "compile_pattern" 374 (vr 112), en P "SnobolError" 410 (vr 132), en P "Failure" 430 (vr 145), en P "Pattern" 459 (vr 166), en P "Delayed" 488 (vr 187), en P "NameRef" 521 (vr 208), en P "is_fail" 528 (vr 219), en P "fits" 536 (vr 226), en P "whole_of_text" 547 (vr 233), en P "text_of_whole" 556 (vr 240), en P "to_whole" 564 (vr 247), en P "to_text" 571 (vr 254), en P "need_text" 579 (vr 261), en P "COUNTED" 587 (vr 262), en P "SIGNED" 592 (vr 263), en P "WIDTH_OF_COUNT" 594 (vi 64 593), en P "plain_count" 604 (vr 271), en P "plain_signs" 613 (vr 278), en P "pattern_of" 621 (vr 285), en P "is_delayed" 628 (vr 292), en P "settled" 637 (vr 299), en P "OPENING" 641 (vs "(" 640), en P "CLOSING" 643 (vs ")" 642), en P "chars_end" 653 (vr 306), en P "len_end" 662 (vr 313), en P "pos_end" 670 (vr 320), en P "rpos_end" 679 (vr 327), en P "tab_end" 688 (vr 334), en P "rtab_end" 698 (vr 341), en P "rem_end" 705 (vr 348), en P "any_at" 714 (vr 355), en P "notany_at" 723 (vr 362), en P "run_end" 733 (vr 369), en P "span_end" 743 (vr 376), en P "break_end" 753 (vr 383), en P "arb_ends" 761 (vr 390), en P "bal_end" 770 (vr 397), en P "bal_ends" 780 (vr 404), en P "one_end" 790 (vr 411), en P "plain_end" 799 (vr 418), en P "ends_of" 810 (vr 425), en P "MET" 814 (vi 0 813), en P "FAILED" 816 (vi 1 815), en P "OVER" 818 (vi 2 817), en P "Way" 865 (vr 449), en P "Match" 980 (vr 526), en P "named_rows" 989 (vr 537), en P "match_orders" 1002 (vr 544), en P "match_compiled" 1012 (vr 551), en P "PlainHost" 1074 (vr 589), en P "three_pieces" 1084 (vr 600), en P "spliced" 1096 (vr 607), en P "_law_moves" 1112 (vr 614), en P "_law_sum" 1121 (vr 621), en P "law" 1127 (vr 626)] 91 }) ::
  (nat_lit 15, { cls := Value.type "tuple", data := Data.seq #[vs "chars" 229, vs "len" 230, vs "pos" 231, vs "rpos" 232, vs "tab" 233, vs "rtab" 234, vs "any" 235, vs "notany" 236, vs "span" 237, vs "break" 238, vs "rem" 239] }) ::
  (nat_lit 16, { cls := Value.type "tuple", data := Data.seq #[vs "fence" 241, vs "fail" 242, vs "abort" 243, vs "succeed" 244] }) ::
  (nat_lit 17, { cls := Value.type "tuple", data := Data.seq #[] }) ::
  (nat_lit 19, { cls := Value.type "tuple", data := Data.seq #[vs "node" 249, vs "kind" 250, vs "found" 251, vs "waiting" 252, vs "part" 253] }) ::
  (nat_lit 20, { cls := Value.type "tuple", data := Data.seq #[] }) ::
  (nat_lit 22, { cls := Value.type "code", data := Data.fields #[vs "row_of" 246, vs "row_of" 247, vs "/claim/cut.py" 248, vi 24 0, vi 2 0, vi 0 0, vi 0 0, vi 3 0, vr 17, Value.bool true, vi 181 0, vr 18, Value.none, vr 19, vr 20, vr 21, vi 254 0, vi 24 0, vs "/claim/cut.py" 255] }) ::
  (nat_lit 23, fo (tst 23) "row_of" "snobol.compile_pattern" 187 22) ::
  (nat_lit 24, { cls := Value.type "tuple", data := Data.seq #[] }) ::
  (nat_lit 26, { cls := Value.type "tuple", data := Data.seq #[vs "node" 260] }) ::
  (nat_lit 27, { cls := Value.type "tuple", data := Data.seq #[] }) ::
  (nat_lit 29, { cls := Value.type "code", data := Data.fields #[vs "is_plain_text" 257, vs "is_plain_text" 258, vs "/claim/cut.py" 259, vi 33 0, vi 1 0, vi 0 0, vi 0 0, vi 3 0, vr 24, Value.bool true, vi 181 0, vr 25, Value.none, vr 26, vr 27, vr 28, vi 261 0, vi 33 0, vs "/claim/cut.py" 262] }) ::
  (nat_lit 30, fo (tst 24) "is_plain_text" "snobol.compile_pattern" 187 29) ::
  (nat_lit 31, { cls := Value.type "tuple", data := Data.seq #[] }) ::
  (nat_lit 33, { cls := Value.type "tuple", data := Data.seq #[vs "parts" 267, vs "found" 268, vs "part" 269] }) ::
  (nat_lit 34, { cls := Value.type "tuple", data := Data.seq #[] }) ::
  (nat_lit 36, { cls := Value.type "code", data := Data.fields #[vs "with_texts_joined" 264, vs "with_texts_joined" 265, vs "/claim/cut.py" 266, vi 35 0, vi 1 0, vi 0 0, vi 0 0, vi 3 0, vr 31, Value.bool true, vi 181 0, vr 32, Value.none, vr 33, vr 34, vr 35, vi 270 0, vi 35 0, vs "/claim/cut.py" 271] }) ::
  (nat_lit 37, fo (tst 25) "with_texts_joined" "snobol.compile_pattern" 187 36) ::
  (nat_lit 45, { cls := Value.type "tuple", data := Data.seq #[] }) ::
  (nat_lit 47, { cls := Value.type "tuple", data := Data.seq #[vs "self" 288] }) ::
  (nat_lit 48, { cls := Value.type "tuple", data := Data.seq #[] }) ::
  (nat_lit 50, { cls := Value.type "code", data := Data.fields #[vs "__init__" 285, vs "PatternCode.__init__" 286, vs "/claim/cut.py" 287, vi 47 0, vi 1 0, vi 0 0, vi 0 0, vi 3 0, vr 45, Value.bool true, vi 181 0, vr 46, Value.none, vr 47, vr 48, vr 49, vi 289 0, vi 47 0, vs "/claim/cut.py" 290] }) ::
  (nat_lit 51, fo (mst 26 0) "PatternCode.__init__" "snobol.compile_pattern" 187 50) ::
  (nat_lit 52, { cls := Value.type "tuple", data := Data.seq #[] }) ::
  (nat_lit 54, { cls := Value.type "tuple", data := Data.seq #[vs "self" 295, vs "order" 296] }) ::
  (nat_lit 55, { cls := Value.type "tuple", data := Data.seq #[] }) ::
  (nat_lit 57, { cls := Value.type "code", data := Data.fields #[vs "emit" 292, vs "PatternCode.emit" 293, vs "/claim/cut.py" 294, vi 50 0, vi 2 0, vi 0 0, vi 0 0, vi 3 0, vr 52, Value.bool true, vi 181 0, vr 53, Value.none, vr 54, vr 55, vr 56, vi 297 0, vi 50 0, vs "/claim/cut.py" 298] }) ::
  (nat_lit 58, fo (mst 26 1) "PatternCode.emit" "snobol.compile_pattern" 187 57) ::
  (nat_lit 59, { cls := Value.type "tuple", data := Data.seq #[] }) ::
  (nat_lit 61, { cls := Value.type "tuple", data := Data.seq #[vs "self" 303, vs "node" 304, vs "waiting" 305, vs "word" 306, vs "told" 307] }) ::
  (nat_lit 62, { cls := Value.type "tuple", data := Data.seq #[] }) ::
  (nat_lit 64, { cls := Value.type "code", data := Data.fields #[vs "put" 300, vs "PatternCode.put" 301, vs "/claim/cut.py" 302, vi 54 0, vi 2 0, vi 0 0, vi 0 0, vi 3 0, vr 59, Value.bool true, vi 181 0, vr 60, Value.none, vr 61, vr 62, vr 63, vi 308 0, vi 54 0, vs "/claim/cut.py" 309] }) ::
  (nat_lit 65, fo (mst 26 2) "PatternCode.put" "snobol.compile_pattern" 187 64) ::
  (nat_lit 66, { cls := Value.type "tuple", data := Data.seq #[] }) ::
  (nat_lit 69, { cls := Value.type "code", data := Data.fields #[vs "begun" 311, vs "PatternCode.begun" 312, vs "/claim/cut.py" 313, vi 65 0, vi 2 0, vi 0 0, vi 0 0, vi 3 0, vr 66, Value.bool true, vi 181 0, vr 67, Value.none, Value.none, Value.none, vr 68, vi 314 0, vi 65 0, vs "/claim/cut.py" 315] }) ::
  (nat_lit 70, fo (mst 26 3) "PatternCode.begun" "snobol.compile_pattern" 187 69) ::
  (nat_lit 71, { cls := Value.type "tuple", data := Data.seq #[] }) ::
  (nat_lit 73, { cls := Value.type "tuple", data := Data.seq #[vs "self" 320, vs "parts" 321, vs "found" 322, vs "ends" 323, vs "part" 324] }) ::
  (nat_lit 74, { cls := Value.type "tuple", data := Data.seq #[] }) ::
  (nat_lit 76, { cls := Value.type "code", data := Data.fields #[vs "choice" 317, vs "PatternCode.choice" 318, vs "/claim/cut.py" 319, vi 84 0, vi 2 0, vi 0 0, vi 0 0, vi 3 0, vr 71, Value.bool true, vi 181 0, vr 72, Value.none, vr 73, vr 74, vr 75, vi 325 0, vi 84 0, vs "/claim/cut.py" 326] }) ::
  (nat_lit 77, fo (mst 26 4) "PatternCode.choice" "snobol.compile_pattern" 187 76) ::
  (nat_lit 78, { cls := Value.type "tuple", data := Data.seq #[] }) ::
  (nat_lit 80, { cls := Value.type "tuple", data := Data.seq #[vs "self" 331, vs "node" 332, vs "split" 333, vs "leave" 334] }) ::
  (nat_lit 81, { cls := Value.type "tuple", data := Data.seq #[] }) ::
  (nat_lit 83, { cls := Value.type "code", data := Data.fields #[vs "repeat" 328, vs "PatternCode.repeat" 329, vs "/claim/cut.py" 330, vi 90 0, vi 2 0, vi 0 0, vi 0 0, vi 3 0, vr 78, Value.bool true, vi 181 0, vr 79, Value.none, vr 80, vr 81, vr 82, vi 335 0, vi 90 0, vs "/claim/cut.py" 336] }) ::
  (nat_lit 84, fo (mst 26 5) "PatternCode.repeat" "snobol.compile_pattern" 187 83) ::
  (nat_lit 85, { cls := Value.type "tuple", data := Data.seq #[] }) ::
  (nat_lit 87, { cls := Value.type "tuple", data := Data.seq #[vs "self" 341, vs "word" 342, vs "ends" 343, vs "at" 344] }) ::
  (nat_lit 88, { cls := Value.type "tuple", data := Data.seq #[] }) ::
  (nat_lit 90, { cls := Value.type "code", data := Data.fields #[vs "bound" 338, vs "PatternCode.bound" 339, vs "/claim/cut.py" 340, vi 97 0, vi 3 0, vi 0 0, vi 0 0, vi 3 0, vr 85, Value.bool true, vi 181 0, vr 86, Value.none, vr 87, vr 88, vr 89, vi 345 0, vi 97 0, vs "/claim/cut.py" 346] }) ::
  (nat_lit 91, fo (mst 26 6) "PatternCode.bound" "snobol.compile_pattern" 187 90) ::
  (nat_lit 92, { cls := Value.type "tuple", data := Data.seq #[vs "orders" 348] }) ::
  (nat_lit 93, { cls := Value.type "dict", data := Data.dict #[en P "__module__" 280 (vs "snobol.compile_pattern" 187), en P "__firstlineno__" 284 (vi 45 283), en P "__init__" 291 (vr 51), en P "emit" 299 (vr 58), en P "put" 310 (vr 65), en P "begun" 316 (vr 70), en P "choice" 327 (vr 77), en P "repeat" 337 (vr 84), en P "bound" 347 (vr 91), en P "__static_attributes__" 349 (vr 92), en P "__dict__" 351 (vr 95), en P "__weakref__" 353 (vr 96), en P "__doc__" 354 (Value.none)] 4 }) ::
  (nat_lit 94, { cls := Value.type "type", data := Data.cls { name := Str.ofString "PatternCode", bases := [Value.type "object"], mro := [vr 94, Value.type "object"], ns := 93, qualname := Str.ofString "PatternCode" }, slots := #[none, none, some (vs "PatternCode" 273), some (vs "PatternCode" 281), some (Value.builtin "object.__new__"), some (Value.bool true)] }) ::
  (nat_lit 95, { cls := Value.type "getset_descriptor", data := Data.fields #[vs "__dict__" 350, vr 94, Value.builtin "function.__dict__", Value.builtin "function.__dict__#set"] }) ::
  (nat_lit 96, { cls := Value.type "getset_descriptor", data := Data.fields #[vs "__weakref__" 352, vr 94, Value.builtin "ExceptionGroup.__weakref__", Value.none] }) ::
  (nat_lit 99, { cls := Value.type "tuple", data := Data.seq #[] }) ::
  (nat_lit 101, { cls := Value.type "tuple", data := Data.seq #[vs "orders" 360, vs "found" 361, vs "order" 362, vs "goal" 363] }) ::
  (nat_lit 102, { cls := Value.type "tuple", data := Data.seq #[] }) ::
  (nat_lit 104, { cls := Value.type "code", data := Data.fields #[vs "straightened" 357, vs "straightened" 358, vs "/claim/cut.py" 359, vi 106 0, vi 1 0, vi 0 0, vi 0 0, vi 3 0, vr 99, Value.bool true, vi 181 0, vr 100, Value.none, vr 101, vr 102, vr 103, vi 364 0, vi 106 0, vs "/claim/cut.py" 365] }) ::
  (nat_lit 105, fo (tst 27) "straightened" "snobol.compile_pattern" 187 104) ::
  (nat_lit 106, { cls := Value.type "tuple", data := Data.seq #[] }) ::
  (nat_lit 108, { cls := Value.type "tuple", data := Data.seq #[vs "node" 370, vs "code" 371] }) ::
  (nat_lit 109, { cls := Value.type "tuple", data := Data.seq #[] }) ::
  (nat_lit 111, { cls := Value.type "code", data := Data.fields #[vs "compile_pattern" 367, vs "compile_pattern" 368, vs "/claim/cut.py" 369, vi 116 0, vi 1 0, vi 0 0, vi 0 0, vi 3 0, vr 106, Value.bool true, vi 181 0, vr 107, Value.none, vr 108, vr 109, vr 110, vi 372 0, vi 116 0, vs "/claim/cut.py" 373] }) ::
  (nat_lit 112, fo (tst 28) "compile_pattern" "snobol.compile_pattern" 187 111) ::
  (nat_lit 113, { cls := Value.type "tuple", data := Data.seq #[Value.type "Exception"] }) ::
  (nat_lit 116, { cls := Value.type "cell", data := Data.cell (some (vr 132)) }) ::
  (nat_lit 121, { cls := Value.type "tuple", data := Data.seq #[vs "" 389] }) ::
  (nat_lit 122, { cls := Value.type "tuple", data := Data.seq #[vr 116] }) ::
  (nat_lit 123, { cls := Value.type "tuple", data := Data.seq #[vs "__class__" 393] }) ::
  (nat_lit 125, { cls := Value.type "tuple", data := Data.seq #[vs "self" 394, vs "number" 395, vs "told" 396] }) ::
  (nat_lit 126, { cls := Value.type "tuple", data := Data.seq #[] }) ::
  (nat_lit 128, { cls := Value.type "code", data := Data.fields #[vs "__init__" 390, vs "SnobolError.__init__" 391, vs "/claim/cut.py" 392, vi 124 0, vi 3 0, vi 0 0, vi 0 0, vi 3 0, vr 123, Value.bool true, vi 181 0, vr 124, Value.none, vr 125, vr 126, vr 127, vi 397 0, vi 124 0, vs "/claim/cut.py" 398] }) ::
  (nat_lit 129, fo (mst 30 0) "SnobolError.__init__" "snobol.values" 375 128 ([(Str.ofString "__class__", 116)]) (Value.ref 121) (Value.ref 122)) ::
  (nat_lit 130, { cls := Value.type "tuple", data := Data.seq #[vs "number" 400, vs "told" 401] }) ::
  (nat_lit 131, { cls := Value.type "dict", data := Data.dict #[en P "__module__" 384 (vs "snobol.values" 375), en P "__firstlineno__" 388 (vi 122 387), en P "__init__" 399 (vr 129), en P "__static_attributes__" 402 (vr 130), en P "__weakref__" 405 (vr 133), en P "__doc__" 406 (Value.none)] 4 }) ::
  (nat_lit 132, { cls := Value.type "type", data := Data.cls { name := Str.ofString "SnobolError", bases := [Value.type "Exception"], mro := [vr 132, Value.type "Exception", Value.type "BaseException", Value.type "object"], ns := 131, qualname := Str.ofString "SnobolError" }, slots := #[some (vr 113), none, some (vs "SnobolError" 377), some (vs "SnobolError" 385), some (Value.builtin "Exception.__new__"), some (Value.bool true)] }) ::
  (nat_lit 133, { cls := Value.type "getset_descriptor", data := Data.fields #[vs "__weakref__" 404, vr 132, Value.builtin "ExceptionGroup.__weakref__", Value.none] }) ::
  (nat_lit 143, { cls := Value.type "tuple", data := Data.seq #[] }) ::
  (nat_lit 144, { cls := Value.type "dict", data := Data.dict #[en P "__module__" 418 (vs "snobol.values" 375), en P "__firstlineno__" 422 (vi 128 421), en P "__static_attributes__" 423 (vr 143), en P "__dict__" 425 (vr 146), en P "__weakref__" 427 (vr 147), en P "__doc__" 428 (Value.none)] 4 }) ::
  (nat_lit 145, { cls := Value.type "type", data := Data.cls { name := Str.ofString "Failure", bases := [Value.type "object"], mro := [vr 145, Value.type "object"], ns := 144, qualname := Str.ofString "Failure" }, slots := #[none, none, some (vs "Failure" 411), some (vs "Failure" 419), some (Value.builtin "object.__new__"), some (Value.bool true)] }) ::
  (nat_lit 146, { cls := Value.type "getset_descriptor", data := Data.fields #[vs "__dict__" 424, vr 145, Value.builtin "function.__dict__", Value.builtin "function.__dict__#set"] }) ::
  (nat_lit 147, { cls := Value.type "getset_descriptor", data := Data.fields #[vs "__weakref__" 426, vr 145, Value.builtin "ExceptionGroup.__weakref__", Value.none] }) ::
  (nat_lit 157, { cls := Value.type "tuple", data := Data.seq #[] }) ::
  (nat_lit 159, { cls := Value.type "tuple", data := Data.seq #[vs "self" 446, vs "node" 447] }) ::
  (nat_lit 160, { cls := Value.type "tuple", data := Data.seq #[] }) ::
  (nat_lit 162, { cls := Value.type "code", data := Data.fields #[vs "__init__" 443, vs "Pattern.__init__" 444, vs "/claim/cut.py" 445, vi 132 0, vi 2 0, vi 0 0, vi 0 0, vi 3 0, vr 157, Value.bool true, vi 181 0, vr 158, Value.none, vr 159, vr 160, vr 161, vi 448 0, vi 132 0, vs "/claim/cut.py" 449] }) ::
  (nat_lit 163, fo (mst 32 0) "Pattern.__init__" "snobol.values" 375 162) ::
  (nat_lit 164, { cls := Value.type "tuple", data := Data.seq #[vs "node" 451] }) ::
  (nat_lit 165, { cls := Value.type "dict", data := Data.dict #[en P "__module__" 438 (vs "snobol.values" 375), en P "__firstlineno__" 442 (vi 130 441), en P "__init__" 450 (vr 163), en P "__static_attributes__" 452 (vr 164), en P "__dict__" 454 (vr 167), en P "__weakref__" 456 (vr 168), en P "__doc__" 457 (Value.none)] 4 }) ::
  (nat_lit 166, { cls := Value.type "type", data := Data.cls { name := Str.ofString "Pattern", bases := [Value.type "object"], mro := [vr 166, Value.type "object"], ns := 165, qualname := Str.ofString "Pattern" }, slots := #[none, none, some (vs "Pattern" 431), some (vs "Pattern" 439), some (Value.builtin "object.__new__"), some (Value.bool true)] }) ::
  (nat_lit 167, { cls := Value.type "getset_descriptor", data := Data.fields #[vs "__dict__" 453, vr 166, Value.builtin "function.__dict__", Value.builtin "function.__dict__#set"] }) ::
  (nat_lit 168, { cls := Value.type "getset_descriptor", data := Data.fields #[vs "__weakref__" 455, vr 166, Value.builtin "ExceptionGroup.__weakref__", Value.none] }) ::
  (nat_lit 178, { cls := Value.type "tuple", data := Data.seq #[] }) ::
  (nat_lit 180, { cls := Value.type "tuple", data := Data.seq #[vs "self" 475, vs "tree" 476] }) ::
  (nat_lit 181, { cls := Value.type "tuple", data := Data.seq #[] }) ::
  (nat_lit 183, { cls := Value.type "code", data := Data.fields #[vs "__init__" 472, vs "Delayed.__init__" 473, vs "/claim/cut.py" 474, vi 136 0, vi 2 0, vi 0 0, vi 0 0, vi 3 0, vr 178, Value.bool true, vi 181 0, vr 179, Value.none, vr 180, vr 181, vr 182, vi 477 0, vi 136 0, vs "/claim/cut.py" 478] }) ::
  (nat_lit 184, fo (mst 33 0) "Delayed.__init__" "snobol.values" 375 183) ::
  (nat_lit 185, { cls := Value.type "tuple", data := Data.seq #[vs "tree" 480] }) ::
  (nat_lit 186, { cls := Value.type "dict", data := Data.dict #[en P "__module__" 467 (vs "snobol.values" 375), en P "__firstlineno__" 471 (vi 134 470), en P "__init__" 479 (vr 184), en P "__static_attributes__" 481 (vr 185), en P "__dict__" 483 (vr 188), en P "__weakref__" 485 (vr 189), en P "__doc__" 486 (Value.none)] 4 }) ::
  (nat_lit 187, { cls := Value.type "type", data := Data.cls { name := Str.ofString "Delayed", bases := [Value.type "object"], mro := [vr 187, Value.type "object"], ns := 186, qualname := Str.ofString "Delayed" }, slots := #[none, none, some (vs "Delayed" 460), some (vs "Delayed" 468), some (Value.builtin "object.__new__"), some (Value.bool true)] }) ::
  (nat_lit 188, { cls := Value.type "getset_descriptor", data := Data.fields #[vs "__dict__" 482, vr 187, Value.builtin "function.__dict__", Value.builtin "function.__dict__#set"] }) ::
  (nat_lit 189, { cls := Value.type "getset_descriptor", data := Data.fields #[vs "__weakref__" 484, vr 187, Value.builtin "ExceptionGroup.__weakref__", Value.none] }) ::
  (nat_lit 199, { cls := Value.type "tuple", data := Data.seq #[] }) ::
  (nat_lit 201, { cls := Value.type "tuple", data := Data.seq #[vs "self" 504, vs "kind" 505, vs "owner" 506, vs "key" 507] }) ::
  (nat_lit 202, { cls := Value.type "tuple", data := Data.seq #[] }) ::
  (nat_lit 204, { cls := Value.type "code", data := Data.fields #[vs "__init__" 501, vs "NameRef.__init__" 502, vs "/claim/cut.py" 503, vi 140 0, vi 4 0, vi 0 0, vi 0 0, vi 3 0, vr 199, Value.bool true, vi 181 0, vr 200, Value.none, vr 201, vr 202, vr 203, vi 508 0, vi 140 0, vs "/claim/cut.py" 509] }) ::
  (nat_lit 205, fo (mst 34 0) "NameRef.__init__" "snobol.values" 375 204) ::
  (nat_lit 206, { cls := Value.type "tuple", data := Data.seq #[vs "key" 511, vs "kind" 512, vs "owner" 513] }) ::
  (nat_lit 207, { cls := Value.type "dict", data := Data.dict #[en P "__module__" 496 (vs "snobol.values" 375), en P "__firstlineno__" 500 (vi 138 499), en P "__init__" 510 (vr 205), en P "__static_attributes__" 514 (vr 206), en P "__dict__" 516 (vr 209), en P "__weakref__" 518 (vr 210), en P "__doc__" 519 (Value.none)] 4 }) ::
  (nat_lit 208, { cls := Value.type "type", data := Data.cls { name := Str.ofString "NameRef", bases := [Value.type "object"], mro := [vr 208, Value.type "object"], ns := 207, qualname := Str.ofString "NameRef" }, slots := #[none, none, some (vs "NameRef" 489), some (vs "NameRef" 497), some (Value.builtin "object.__new__"), some (Value.bool true)] }) ::
  (nat_lit 209, { cls := Value.type "getset_descriptor", data := Data.fields #[vs "__dict__" 515, vr 208, Value.builtin "function.__dict__", Value.builtin "function.__dict__#set"] }) ::
  (nat_lit 210, { cls := Value.type "getset_descriptor", data := Data.fields #[vs "__weakref__" 517, vr 208, Value.builtin "ExceptionGroup.__weakref__", Value.none] }) ::
  (nat_lit 213, { cls := Value.type "tuple", data := Data.seq #[] }) ::
  (nat_lit 215, { cls := Value.type "tuple", data := Data.seq #[vs "value" 525] }) ::
  (nat_lit 216, { cls := Value.type "tuple", data := Data.seq #[] }) ::
  (nat_lit 218, { cls := Value.type "code", data := Data.fields #[vs "is_fail" 522, vs "is_fail" 523, vs "/claim/cut.py" 524, vi 144 0, vi 1 0, vi 0 0, vi 0 0, vi 3 0, vr 213, Value.bool true, vi 181 0, vr 214, Value.none, vr 215, vr 216, vr 217, vi 526 0, vi 144 0, vs "/claim/cut.py" 527] }) ::
  (nat_lit 219, fo (tst 35) "is_fail" "snobol.values" 375 218) ::
  (nat_lit 220, { cls := Value.type "tuple", data := Data.seq #[] }) ::
  (nat_lit 222, { cls := Value.type "tuple", data := Data.seq #[vs "number" 532, vs "width" 533] }) ::
  (nat_lit 223, { cls := Value.type "tuple", data := Data.seq #[] }) ::
  (nat_lit 225, { cls := Value.type "code", data := Data.fields #[vs "fits" 529, vs "fits" 530, vs "/claim/cut.py" 531, vi 146 0, vi 2 0, vi 0 0, vi 0 0, vi 3 0, vr 220, Value.bool true, vi 181 0, vr 221, Value.none, vr 222, vr 223, vr 224, vi 534 0, vi 146 0, vs "/claim/cut.py" 535] }) ::
  (nat_lit 226, fo (tst 36) "fits" "snobol.values" 375 225) ::
  (nat_lit 227, { cls := Value.type "tuple", data := Data.seq #[] }) ::
  (nat_lit 229, { cls := Value.type "tuple", data := Data.seq #[vs "text" 540, vs "width" 541, vs "digits" 542, vs "number" 543, vs "sign" 544] }) ::
  (nat_lit 230, { cls := Value.type "tuple", data := Data.seq #[] }) ::
  (nat_lit 232, { cls := Value.type "code", data := Data.fields #[vs "whole_of_text" 537, vs "whole_of_text" 538, vs "/claim/cut.py" 539, vi 148 0, vi 2 0, vi 0 0, vi 0 0, vi 3 0, vr 227, Value.bool true, vi 181 0, vr 228, Value.none, vr 229, vr 230, vr 231, vi 545 0, vi 148 0, vs "/claim/cut.py" 546] }) ::
  (nat_lit 233, fo (tst 37) "whole_of_text" "snobol.values" 375 232) ::
  (nat_lit 234, { cls := Value.type "tuple", data := Data.seq #[] }) ::
  (nat_lit 236, { cls := Value.type "tuple", data := Data.seq #[vs "number" 551, vs "left" 552, vs "found" 553] }) ::
  (nat_lit 237, { cls := Value.type "tuple", data := Data.seq #[] }) ::
  (nat_lit 239, { cls := Value.type "code", data := Data.fields #[vs "text_of_whole" 548, vs "text_of_whole" 549, vs "/claim/cut.py" 550, vi 161 0, vi 1 0, vi 0 0, vi 0 0, vi 3 0, vr 234, Value.bool true, vi 181 0, vr 235, Value.none, vr 236, vr 237, vr 238, vi 554 0, vi 161 0, vs "/claim/cut.py" 555] }) ::
  (nat_lit 240, fo (tst 38) "text_of_whole" "snobol.values" 375 239) ::
  (nat_lit 241, { cls := Value.type "tuple", data := Data.seq #[] }) ::
  (nat_lit 243, { cls := Value.type "tuple", data := Data.seq #[vs "value" 560, vs "width" 561] }) ::
  (nat_lit 244, { cls := Value.type "tuple", data := Data.seq #[] }) ::
  (nat_lit 246, { cls := Value.type "code", data := Data.fields #[vs "to_whole" 557, vs "to_whole" 558, vs "/claim/cut.py" 559, vi 167 0, vi 2 0, vi 0 0, vi 0 0, vi 3 0, vr 241, Value.bool true, vi 181 0, vr 242, Value.none, vr 243, vr 244, vr 245, vi 562 0, vi 167 0, vs "/claim/cut.py" 563] }) ::
  (nat_lit 247, fo (tst 39) "to_whole" "snobol.values" 375 246) ::
  (nat_lit 248, { cls := Value.type "tuple", data := Data.seq #[] }) ::
  (nat_lit 250, { cls := Value.type "tuple", data := Data.seq #[vs "value" 568] }) ::
  (nat_lit 251, { cls := Value.type "tuple", data := Data.seq #[] }) ::
  (nat_lit 253, { cls := Value.type "code", data := Data.fields #[vs "to_text" 565, vs "to_text" 566, vs "/claim/cut.py" 567, vi 171 0, vi 1 0, vi 0 0, vi 0 0, vi 3 0, vr 248, Value.bool true, vi 181 0, vr 249, Value.none, vr 250, vr 251, vr 252, vi 569 0, vi 171 0, vs "/claim/cut.py" 570] }) ::
  (nat_lit 254, fo (tst 40) "to_text" "snobol.values" 375 253) ::
  (nat_lit 255, { cls := Value.type "tuple", data := Data.seq #[] }) ::
  (nat_lit 257, { cls := Value.type "tuple", data := Data.seq #[vs "value" 575, vs "text" 576] }) ::
  (nat_lit 258, { cls := Value.type "tuple", data := Data.seq #[] }) ::
  (nat_lit 260, { cls := Value.type "code", data := Data.fields #[vs "need_text" 572, vs "need_text" 573, vs "/claim/cut.py" 574, vi 175 0, vi 1 0, vi 0 0, vi 0 0, vi 3 0, vr 255, Value.bool true, vi 181 0, vr 256, Value.none, vr 257, vr 258, vr 259, vi 577 0, vi 175 0, vs "/claim/cut.py" 578] }) ::
  (nat_lit 261, fo (tst 41) "need_text" "snobol.values" 375 260) ::
  (nat_lit 262, { cls := Value.type "tuple", data := Data.seq #[vs "len" 582, vs "pos" 583, vs "rpos" 584, vs "tab" 585, vs "rtab" 586] }) ::
  (nat_lit 263, { cls := Value.type "tuple", data := Data.seq #[vs "any" 588, vs "notany" 589, vs "span" 590, vs "break" 591] }) ::
  (nat_lit 264, { cls := Value.type "tuple", data := Data.seq #[vi 64 593] }) ::
  (nat_lit 265, { cls := Value.type "tuple", data := Data.seq #[] }) ::
  (nat_lit 267, { cls := Value.type "tuple", data := Data.seq #[vs "value" 598, vs "kind" 599, vs "width" 600, vs "count" 601] }) ::
  (nat_lit 268, { cls := Value.type "tuple", data := Data.seq #[] }) ::
  (nat_lit 270, { cls := Value.type "code", data := Data.fields #[vs "plain_count" 595, vs "plain_count" 596, vs "/claim/cut.py" 597, vi 184 0, vi 3 0, vi 0 0, vi 0 0, vi 3 0, vr 265, Value.bool true, vi 181 0, vr 266, Value.none, vr 267, vr 268, vr 269, vi 602 0, vi 184 0, vs "/claim/cut.py" 603] }) ::
  (nat_lit 271, fo (tst 46) "plain_count" "snobol.nodes" 580 270 ([]) (Value.ref 264) (Value.none)) ::
  (nat_lit 272, { cls := Value.type "tuple", data := Data.seq #[] }) ::
  (nat_lit 274, { cls := Value.type "tuple", data := Data.seq #[vs "value" 608, vs "kind" 609, vs "text" 610] }) ::
  (nat_lit 275, { cls := Value.type "tuple", data := Data.seq #[] }) ::
  (nat_lit 277, { cls := Value.type "code", data := Data.fields #[vs "plain_signs" 605, vs "plain_signs" 606, vs "/claim/cut.py" 607, vi 191 0, vi 2 0, vi 0 0, vi 0 0, vi 3 0, vr 272, Value.bool true, vi 181 0, vr 273, Value.none, vr 274, vr 275, vr 276, vi 611 0, vi 191 0, vs "/claim/cut.py" 612] }) ::
  (nat_lit 278, fo (tst 47) "plain_signs" "snobol.nodes" 580 277) ::
  (nat_lit 279, { cls := Value.type "tuple", data := Data.seq #[] }) ::
  (nat_lit 281, { cls := Value.type "tuple", data := Data.seq #[vs "value" 617, vs "text" 618] }) ::
  (nat_lit 282, { cls := Value.type "tuple", data := Data.seq #[] }) ::
  (nat_lit 284, { cls := Value.type "code", data := Data.fields #[vs "pattern_of" 614, vs "pattern_of" 615, vs "/claim/cut.py" 616, vi 196 0, vi 1 0, vi 0 0, vi 0 0, vi 3 0, vr 279, Value.bool true, vi 181 0, vr 280, Value.none, vr 281, vr 282, vr 283, vi 619 0, vi 196 0, vs "/claim/cut.py" 620] }) ::
  (nat_lit 285, fo (tst 48) "pattern_of" "snobol.nodes" 580 284) ::
  (nat_lit 286, { cls := Value.type "tuple", data := Data.seq #[] }) ::
  (nat_lit 288, { cls := Value.type "tuple", data := Data.seq #[vs "told" 625] }) ::
  (nat_lit 289, { cls := Value.type "tuple", data := Data.seq #[] }) ::
  (nat_lit 291, { cls := Value.type "code", data := Data.fields #[vs "is_delayed" 622, vs "is_delayed" 623, vs "/claim/cut.py" 624, vi 205 0, vi 1 0, vi 0 0, vi 0 0, vi 3 0, vr 286, Value.bool true, vi 181 0, vr 287, Value.none, vr 288, vr 289, vr 290, vi 626 0, vi 205 0, vs "/claim/cut.py" 627] }) ::
  (nat_lit 292, fo (tst 49) "is_delayed" "snobol.nodes" 580 291) ::
  (nat_lit 293, { cls := Value.type "tuple", data := Data.seq #[] }) ::
  (nat_lit 295, { cls := Value.type "tuple", data := Data.seq #[vs "node" 632, vs "host" 633, vs "value" 634] }) ::
  (nat_lit 296, { cls := Value.type "tuple", data := Data.seq #[] }) ::
  (nat_lit 298, { cls := Value.type "code", data := Data.fields #[vs "settled" 629, vs "settled" 630, vs "/claim/cut.py" 631, vi 207 0, vi 2 0, vi 0 0, vi 0 0, vi 3 0, vr 293, Value.bool true, vi 181 0, vr 294, Value.none, vr 295, vr 296, vr 297, vi 635 0, vi 207 0, vs "/claim/cut.py" 636] }) ::
  (nat_lit 299, fo (tst 50) "settled" "snobol.nodes" 580 298) ::
  (nat_lit 300, { cls := Value.type "tuple", data := Data.seq #[] }) ::
  (nat_lit 302, { cls := Value.type "tuple", data := Data.seq #[vs "subject" 647, vs "at" 648, vs "text" 649, vs "end" 650] }) ::
  (nat_lit 303, { cls := Value.type "tuple", data := Data.seq #[] }) ::
  (nat_lit 305, { cls := Value.type "code", data := Data.fields #[vs "chars_end" 644, vs "chars_end" 645, vs "/claim/cut.py" 646, vi 219 0, vi 3 0, vi 0 0, vi 0 0, vi 3 0, vr 300, Value.bool true, vi 181 0, vr 301, Value.none, vr 302, vr 303, vr 304, vi 651 0, vi 219 0, vs "/claim/cut.py" 652] }) ::
  (nat_lit 306, fo (tst 54) "chars_end" "snobol.primitives" 638 305) ::
  (nat_lit 307, { cls := Value.type "tuple", data := Data.seq #[] }) ::
  (nat_lit 309, { cls := Value.type "tuple", data := Data.seq #[vs "subject" 657, vs "at" 658, vs "many" 659] }) ::
  (nat_lit 310, { cls := Value.type "tuple", data := Data.seq #[] }) ::
  (nat_lit 312, { cls := Value.type "code", data := Data.fields #[vs "len_end" 654, vs "len_end" 655, vs "/claim/cut.py" 656, vi 222 0, vi 3 0, vi 0 0, vi 0 0, vi 3 0, vr 307, Value.bool true, vi 181 0, vr 308, Value.none, vr 309, vr 310, vr 311, vi 660 0, vi 222 0, vs "/claim/cut.py" 661] }) ::
  (nat_lit 313, fo (tst 55) "len_end" "snobol.primitives" 638 312) ::
  (nat_lit 314, { cls := Value.type "tuple", data := Data.seq #[] }) ::
  (nat_lit 316, { cls := Value.type "tuple", data := Data.seq #[vs "at" 666, vs "place" 667] }) ::
  (nat_lit 317, { cls := Value.type "tuple", data := Data.seq #[] }) ::
  (nat_lit 319, { cls := Value.type "code", data := Data.fields #[vs "pos_end" 663, vs "pos_end" 664, vs "/claim/cut.py" 665, vi 224 0, vi 2 0, vi 0 0, vi 0 0, vi 3 0, vr 314, Value.bool true, vi 181 0, vr 315, Value.none, vr 316, vr 317, vr 318, vi 668 0, vi 224 0, vs "/claim/cut.py" 669] }) ::
  (nat_lit 320, fo (tst 56) "pos_end" "snobol.primitives" 638 319) ::
  (nat_lit 321, { cls := Value.type "tuple", data := Data.seq #[] }) ::
  (nat_lit 323, { cls := Value.type "tuple", data := Data.seq #[vs "subject" 674, vs "at" 675, vs "place" 676] }) ::
  (nat_lit 324, { cls := Value.type "tuple", data := Data.seq #[] }) ::
  (nat_lit 326, { cls := Value.type "code", data := Data.fields #[vs "rpos_end" 671, vs "rpos_end" 672, vs "/claim/cut.py" 673, vi 226 0, vi 3 0, vi 0 0, vi 0 0, vi 3 0, vr 321, Value.bool true, vi 181 0, vr 322, Value.none, vr 323, vr 324, vr 325, vi 677 0, vi 226 0, vs "/claim/cut.py" 678] }) ::
  (nat_lit 327, fo (tst 57) "rpos_end" "snobol.primitives" 638 326) ::
  (nat_lit 328, { cls := Value.type "tuple", data := Data.seq #[] }) ::
  (nat_lit 330, { cls := Value.type "tuple", data := Data.seq #[vs "subject" 683, vs "at" 684, vs "place" 685] }) ::
  (nat_lit 331, { cls := Value.type "tuple", data := Data.seq #[] }) ::
  (nat_lit 333, { cls := Value.type "code", data := Data.fields #[vs "tab_end" 680, vs "tab_end" 681, vs "/claim/cut.py" 682, vi 228 0, vi 3 0, vi 0 0, vi 0 0, vi 3 0, vr 328, Value.bool true, vi 181 0, vr 329, Value.none, vr 330, vr 331, vr 332, vi 686 0, vi 228 0, vs "/claim/cut.py" 687] }) ::
  (nat_lit 334, fo (tst 58) "tab_end" "snobol.primitives" 638 333) ::
  (nat_lit 335, { cls := Value.type "tuple", data := Data.seq #[] }) ::
  (nat_lit 337, { cls := Value.type "tuple", data := Data.seq #[vs "subject" 692, vs "at" 693, vs "place" 694, vs "goal" 695] }) ::
  (nat_lit 338, { cls := Value.type "tuple", data := Data.seq #[] }) ::
  (nat_lit 340, { cls := Value.type "code", data := Data.fields #[vs "rtab_end" 689, vs "rtab_end" 690, vs "/claim/cut.py" 691, vi 230 0, vi 3 0, vi 0 0, vi 0 0, vi 3 0, vr 335, Value.bool true, vi 181 0, vr 336, Value.none, vr 337, vr 338, vr 339, vi 696 0, vi 230 0, vs "/claim/cut.py" 697] }) ::
  (nat_lit 341, fo (tst 59) "rtab_end" "snobol.primitives" 638 340) ::
  (nat_lit 342, { cls := Value.type "tuple", data := Data.seq #[] }) ::
  (nat_lit 344, { cls := Value.type "tuple", data := Data.seq #[vs "subject" 702] }) ::
  (nat_lit 345, { cls := Value.type "tuple", data := Data.seq #[] }) ::
  (nat_lit 347, { cls := Value.type "code", data := Data.fields #[vs "rem_end" 699, vs "rem_end" 700, vs "/claim/cut.py" 701, vi 233 0, vi 1 0, vi 0 0, vi 0 0, vi 3 0, vr 342, Value.bool true, vi 181 0, vr 343, Value.none, vr 344, vr 345, vr 346, vi 703 0, vi 233 0, vs "/claim/cut.py" 704] }) ::
  (nat_lit 348, fo (tst 60) "rem_end" "snobol.primitives" 638 347) ::
  (nat_lit 349, { cls := Value.type "tuple", data := Data.seq #[] }) ::
  (nat_lit 351, { cls := Value.type "tuple", data := Data.seq #[vs "subject" 709, vs "at" 710, vs "signs" 711] }) ::
  (nat_lit 352, { cls := Value.type "tuple", data := Data.seq #[] }) ::
  (nat_lit 354, { cls := Value.type "code", data := Data.fields #[vs "any_at" 706, vs "any_at" 707, vs "/claim/cut.py" 708, vi 235 0, vi 3 0, vi 0 0, vi 0 0, vi 3 0, vr 349, Value.bool true, vi 181 0, vr 350, Value.none, vr 351, vr 352, vr 353, vi 712 0, vi 235 0, vs "/claim/cut.py" 713] }) ::
  (nat_lit 355, fo (tst 61) "any_at" "snobol.primitives" 638 354) ::
  (nat_lit 356, { cls := Value.type "tuple", data := Data.seq #[] }) ::
  (nat_lit 358, { cls := Value.type "tuple", data := Data.seq #[vs "subject" 718, vs "at" 719, vs "signs" 720] }) ::
  (nat_lit 359, { cls := Value.type "tuple", data := Data.seq #[] }) ::
  (nat_lit 361, { cls := Value.type "code", data := Data.fields #[vs "notany_at" 715, vs "notany_at" 716, vs "/claim/cut.py" 717, vi 237 0, vi 3 0, vi 0 0, vi 0 0, vi 3 0, vr 356, Value.bool true, vi 181 0, vr 357, Value.none, vr 358, vr 359, vr 360, vi 721 0, vi 237 0, vs "/claim/cut.py" 722] }) ::
  (nat_lit 362, fo (tst 62) "notany_at" "snobol.primitives" 638 361) ::
  (nat_lit 363, { cls := Value.type "tuple", data := Data.seq #[] }) ::
  (nat_lit 365, { cls := Value.type "tuple", data := Data.seq #[vs "subject" 727, vs "at" 728, vs "signs" 729, vs "is_in" 730] }) ::
  (nat_lit 366, { cls := Value.type "tuple", data := Data.seq #[] }) ::
  (nat_lit 368, { cls := Value.type "code", data := Data.fields #[vs "run_end" 724, vs "run_end" 725, vs "/claim/cut.py" 726, vi 239 0, vi 4 0, vi 0 0, vi 0 0, vi 3 0, vr 363, Value.bool true, vi 181 0, vr 364, Value.none, vr 365, vr 366, vr 367, vi 731 0, vi 239 0, vs "/claim/cut.py" 732] }) ::
  (nat_lit 369, fo (tst 63) "run_end" "snobol.primitives" 638 368) ::
  (nat_lit 370, { cls := Value.type "tuple", data := Data.seq #[] }) ::
  (nat_lit 372, { cls := Value.type "tuple", data := Data.seq #[vs "subject" 737, vs "at" 738, vs "signs" 739, vs "end" 740] }) ::
  (nat_lit 373, { cls := Value.type "tuple", data := Data.seq #[] }) ::
  (nat_lit 375, { cls := Value.type "code", data := Data.fields #[vs "span_end" 734, vs "span_end" 735, vs "/claim/cut.py" 736, vi 243 0, vi 3 0, vi 0 0, vi 0 0, vi 3 0, vr 370, Value.bool true, vi 181 0, vr 371, Value.none, vr 372, vr 373, vr 374, vi 741 0, vi 243 0, vs "/claim/cut.py" 742] }) ::
  (nat_lit 376, fo (tst 64) "span_end" "snobol.primitives" 638 375) ::
  (nat_lit 377, { cls := Value.type "tuple", data := Data.seq #[] }) ::
  (nat_lit 379, { cls := Value.type "tuple", data := Data.seq #[vs "subject" 747, vs "at" 748, vs "signs" 749, vs "end" 750] }) ::
  (nat_lit 380, { cls := Value.type "tuple", data := Data.seq #[] }) ::
  (nat_lit 382, { cls := Value.type "code", data := Data.fields #[vs "break_end" 744, vs "break_end" 745, vs "/claim/cut.py" 746, vi 246 0, vi 3 0, vi 0 0, vi 0 0, vi 3 0, vr 377, Value.bool true, vi 181 0, vr 378, Value.none, vr 379, vr 380, vr 381, vi 751 0, vi 246 0, vs "/claim/cut.py" 752] }) ::
  (nat_lit 383, fo (tst 65) "break_end" "snobol.primitives" 638 382) ::
  (nat_lit 384, { cls := Value.type "tuple", data := Data.seq #[] }) ::
  (nat_lit 386, { cls := Value.type "tuple", data := Data.seq #[vs "subject" 757, vs "at" 758] }) ::
  (nat_lit 387, { cls := Value.type "tuple", data := Data.seq #[] }) ::
  (nat_lit 389, { cls := Value.type "code", data := Data.fields #[vs "arb_ends" 754, vs "arb_ends" 755, vs "/claim/cut.py" 756, vi 249 0, vi 2 0, vi 0 0, vi 0 0, vi 3 0, vr 384, Value.bool true, vi 181 0, vr 385, Value.none, vr 386, vr 387, vr 388, vi 759 0, vi 249 0, vs "/claim/cut.py" 760] }) ::
  (nat_lit 390, fo (tst 66) "arb_ends" "snobol.primitives" 638 389) ::
  (nat_lit 391, { cls := Value.type "tuple", data := Data.seq #[] }) ::
  (nat_lit 393, { cls := Value.type "tuple", data := Data.seq #[vs "subject" 765, vs "at" 766, vs "level" 767] }) ::
  (nat_lit 394, { cls := Value.type "tuple", data := Data.seq #[] }) ::
  (nat_lit 396, { cls := Value.type "code", data := Data.fields #[vs "bal_end" 762, vs "bal_end" 763, vs "/claim/cut.py" 764, vi 251 0, vi 2 0, vi 0 0, vi 0 0, vi 3 0, vr 391, Value.bool true, vi 181 0, vr 392, Value.none, vr 393, vr 394, vr 395, vi 768 0, vi 251 0, vs "/claim/cut.py" 769] }) ::
  (nat_lit 397, fo (tst 67) "bal_end" "snobol.primitives" 638 396) ::
  (nat_lit 398, { cls := Value.type "tuple", data := Data.seq #[] }) ::
  (nat_lit 400, { cls := Value.type "tuple", data := Data.seq #[vs "subject" 774, vs "at" 775, vs "found" 776, vs "end" 777] }) ::
  (nat_lit 401, { cls := Value.type "tuple", data := Data.seq #[] }) ::
  (nat_lit 403, { cls := Value.type "code", data := Data.fields #[vs "bal_ends" 771, vs "bal_ends" 772, vs "/claim/cut.py" 773, vi 264 0, vi 2 0, vi 0 0, vi 0 0, vi 3 0, vr 398, Value.bool true, vi 181 0, vr 399, Value.none, vr 400, vr 401, vr 402, vi 778 0, vi 264 0, vs "/claim/cut.py" 779] }) ::
  (nat_lit 404, fo (tst 68) "bal_ends" "snobol.primitives" 638 403) ::
  (nat_lit 405, { cls := Value.type "tuple", data := Data.seq #[] }) ::
  (nat_lit 407, { cls := Value.type "tuple", data := Data.seq #[vs "kind" 784, vs "subject" 785, vs "at" 786, vs "told" 787] }) ::
  (nat_lit 408, { cls := Value.type "tuple", data := Data.seq #[] }) ::
  (nat_lit 410, { cls := Value.type "code", data := Data.fields #[vs "one_end" 781, vs "one_end" 782, vs "/claim/cut.py" 783, vi 270 0, vi 4 0, vi 0 0, vi 0 0, vi 3 0, vr 405, Value.bool true, vi 181 0, vr 406, Value.none, vr 407, vr 408, vr 409, vi 788 0, vi 270 0, vs "/claim/cut.py" 789] }) ::
  (nat_lit 411, fo (tst 69) "one_end" "snobol.primitives" 638 410) ::
  (nat_lit 412, { cls := Value.type "tuple", data := Data.seq #[] }) ::
  (nat_lit 414, { cls := Value.type "tuple", data := Data.seq #[vs "node" 794, vs "subject" 795, vs "at" 796] }) ::
  (nat_lit 415, { cls := Value.type "tuple", data := Data.seq #[] }) ::
  (nat_lit 417, { cls := Value.type "code", data := Data.fields #[vs "plain_end" 791, vs "plain_end" 792, vs "/claim/cut.py" 793, vi 290 0, vi 3 0, vi 0 0, vi 0 0, vi 3 0, vr 412, Value.bool true, vi 181 0, vr 413, Value.none, vr 414, vr 415, vr 416, vi 797 0, vi 290 0, vs "/claim/cut.py" 798] }) ::
  (nat_lit 418, fo (tst 70) "plain_end" "snobol.primitives" 638 417) ::
  (nat_lit 419, { cls := Value.type "tuple", data := Data.seq #[] }) ::
  (nat_lit 421, { cls := Value.type "tuple", data := Data.seq #[vs "kind" 803, vs "subject" 804, vs "at" 805, vs "told" 806, vs "end" 807] }) ::
  (nat_lit 422, { cls := Value.type "tuple", data := Data.seq #[] }) ::
  (nat_lit 424, { cls := Value.type "code", data := Data.fields #[vs "ends_of" 800, vs "ends_of" 801, vs "/claim/cut.py" 802, vi 292 0, vi 4 0, vi 0 0, vi 0 0, vi 3 0, vr 419, Value.bool true, vi 181 0, vr 420, Value.none, vr 421, vr 422, vr 423, vi 808 0, vi 292 0, vs "/claim/cut.py" 809] }) ::
  (nat_lit 425, fo (tst 71) "ends_of" "snobol.primitives" 638 424) ::
  (nat_lit 433, { cls := Value.type "tuple", data := Data.seq #[] }) ::
  (nat_lit 435, { cls := Value.type "tuple", data := Data.seq #[vs "self" 834, vs "orders" 835, vs "pc" 836, vs "at" 837, vs "named" 838, vs "marks" 839, vs "calls" 840] }) ::
  (nat_lit 436, { cls := Value.type "tuple", data := Data.seq #[] }) ::
  (nat_lit 438, { cls := Value.type "code", data := Data.fields #[vs "__init__" 831, vs "Way.__init__" 832, vs "/claim/cut.py" 833, vi 307 0, vi 7 0, vi 0 0, vi 0 0, vi 3 0, vr 433, Value.bool true, vi 181 0, vr 434, Value.none, vr 435, vr 436, vr 437, vi 841 0, vi 307 0, vs "/claim/cut.py" 842] }) ::
  (nat_lit 439, fo (mst 76 0) "Way.__init__" "snobol.pattern_machine" 811 438) ::
  (nat_lit 440, { cls := Value.type "tuple", data := Data.seq #[] }) ::
  (nat_lit 442, { cls := Value.type "tuple", data := Data.seq #[vs "self" 847, vs "pc" 848] }) ::
  (nat_lit 443, { cls := Value.type "tuple", data := Data.seq #[] }) ::
  (nat_lit 445, { cls := Value.type "code", data := Data.fields #[vs "copied" 844, vs "Way.copied" 845, vs "/claim/cut.py" 846, vi 315 0, vi 2 0, vi 0 0, vi 0 0, vi 3 0, vr 440, Value.bool true, vi 181 0, vr 441, Value.none, vr 442, vr 443, vr 444, vi 849 0, vi 315 0, vs "/claim/cut.py" 850] }) ::
  (nat_lit 446, fo (mst 76 1) "Way.copied" "snobol.pattern_machine" 811 445) ::
  (nat_lit 447, { cls := Value.type "tuple", data := Data.seq #[vs "at" 852, vs "calls" 853, vs "marks" 854, vs "named" 855, vs "orders" 856, vs "pc" 857] }) ::
  (nat_lit 448, { cls := Value.type "dict", data := Data.dict #[en P "__module__" 826 (vs "snobol.pattern_machine" 811), en P "__firstlineno__" 830 (vi 305 829), en P "__init__" 843 (vr 439), en P "copied" 851 (vr 446), en P "__static_attributes__" 858 (vr 447), en P "__dict__" 860 (vr 450), en P "__weakref__" 862 (vr 451), en P "__doc__" 863 (Value.none)] 4 }) ::
  (nat_lit 449, { cls := Value.type "type", data := Data.cls { name := Str.ofString "Way", bases := [Value.type "object"], mro := [vr 449, Value.type "object"], ns := 448, qualname := Str.ofString "Way" }, slots := #[none, none, some (vs "Way" 819), some (vs "Way" 827), some (Value.builtin "object.__new__"), some (Value.bool true)] }) ::
  (nat_lit 450, { cls := Value.type "getset_descriptor", data := Data.fields #[vs "__dict__" 859, vr 449, Value.builtin "function.__dict__", Value.builtin "function.__dict__#set"] }) ::
  (nat_lit 451, { cls := Value.type "getset_descriptor", data := Data.fields #[vs "__weakref__" 861, vr 449, Value.builtin "ExceptionGroup.__weakref__", Value.none] }) ::
  (nat_lit 461, { cls := Value.type "tuple", data := Data.seq #[] }) ::
  (nat_lit 463, { cls := Value.type "tuple", data := Data.seq #[vs "self" 881, vs "subject" 882, vs "host" 883] }) ::
  (nat_lit 464, { cls := Value.type "tuple", data := Data.seq #[] }) ::
  (nat_lit 466, { cls := Value.type "code", data := Data.fields #[vs "__init__" 878, vs "Match.__init__" 879, vs "/claim/cut.py" 880, vi 319 0, vi 3 0, vi 0 0, vi 0 0, vi 3 0, vr 461, Value.bool true, vi 181 0, vr 462, Value.none, vr 463, vr 464, vr 465, vi 884 0, vi 319 0, vs "/claim/cut.py" 885] }) ::
  (nat_lit 467, fo (mst 77 0) "Match.__init__" "snobol.pattern_machine" 811 466) ::
  (nat_lit 468, { cls := Value.type "tuple", data := Data.seq #[] }) ::
  (nat_lit 470, { cls := Value.type "tuple", data := Data.seq #[vs "self" 890, vs "orders" 891, vs "begin" 892, vs "way" 893, vs "order" 894] }) ::
  (nat_lit 471, { cls := Value.type "tuple", data := Data.seq #[] }) ::
  (nat_lit 473, { cls := Value.type "code", data := Data.fields #[vs "run" 887, vs "Match.run" 888, vs "/claim/cut.py" 889, vi 324 0, vi 3 0, vi 0 0, vi 0 0, vi 3 0, vr 468, Value.bool true, vi 181 0, vr 469, Value.none, vr 470, vr 471, vr 472, vi 895 0, vi 324 0, vs "/claim/cut.py" 896] }) ::
  (nat_lit 474, fo (mst 77 1) "Match.run" "snobol.pattern_machine" 811 473) ::
  (nat_lit 475, { cls := Value.type "tuple", data := Data.seq #[] }) ::
  (nat_lit 477, { cls := Value.type "tuple", data := Data.seq #[vs "self" 901] }) ::
  (nat_lit 478, { cls := Value.type "tuple", data := Data.seq #[] }) ::
  (nat_lit 480, { cls := Value.type "code", data := Data.fields #[vs "way_back" 898, vs "Match.way_back" 899, vs "/claim/cut.py" 900, vi 339 0, vi 1 0, vi 0 0, vi 0 0, vi 3 0, vr 475, Value.bool true, vi 181 0, vr 476, Value.none, vr 477, vr 478, vr 479, vi 902 0, vi 339 0, vs "/claim/cut.py" 903] }) ::
  (nat_lit 481, fo (mst 77 2) "Match.way_back" "snobol.pattern_machine" 811 480) ::
  (nat_lit 482, { cls := Value.type "tuple", data := Data.seq #[] }) ::
  (nat_lit 484, { cls := Value.type "tuple", data := Data.seq #[vs "self" 908, vs "order" 909, vs "way" 910, vs "word" 911] }) ::
  (nat_lit 485, { cls := Value.type "tuple", data := Data.seq #[] }) ::
  (nat_lit 487, { cls := Value.type "code", data := Data.fields #[vs "done" 905, vs "Match.done" 906, vs "/claim/cut.py" 907, vi 342 0, vi 3 0, vi 0 0, vi 0 0, vi 3 0, vr 482, Value.bool true, vi 181 0, vr 483, Value.none, vr 484, vr 485, vr 486, vi 912 0, vi 342 0, vs "/claim/cut.py" 913] }) ::
  (nat_lit 488, fo (mst 77 3) "Match.done" "snobol.pattern_machine" 811 487) ::
  (nat_lit 489, { cls := Value.type "tuple", data := Data.seq #[] }) ::
  (nat_lit 491, { cls := Value.type "tuple", data := Data.seq #[vs "self" 918, vs "order" 919, vs "way" 920, vs "told" 921, vs "node" 922, vs "end" 923] }) ::
  (nat_lit 492, { cls := Value.type "tuple", data := Data.seq #[] }) ::
  (nat_lit 494, { cls := Value.type "code", data := Data.fields #[vs "met_once" 915, vs "Match.met_once" 916, vs "/claim/cut.py" 917, vi 364 0, vi 3 0, vi 0 0, vi 0 0, vi 3 0, vr 489, Value.bool true, vi 181 0, vr 490, Value.none, vr 491, vr 492, vr 493, vi 924 0, vi 364 0, vs "/claim/cut.py" 925] }) ::
  (nat_lit 495, fo (mst 77 4) "Match.met_once" "snobol.pattern_machine" 811 494) ::
  (nat_lit 496, { cls := Value.type "tuple", data := Data.seq #[] }) ::
  (nat_lit 498, { cls := Value.type "tuple", data := Data.seq #[vs "self" 930, vs "order" 931, vs "way" 932, vs "marks" 933, vs "begin" 934, vs "text" 935] }) ::
  (nat_lit 499, { cls := Value.type "tuple", data := Data.seq #[] }) ::
  (nat_lit 501, { cls := Value.type "code", data := Data.fields #[vs "ended" 927, vs "Match.ended" 928, vs "/claim/cut.py" 929, vi 378 0, vi 3 0, vi 0 0, vi 0 0, vi 3 0, vr 496, Value.bool true, vi 181 0, vr 497, Value.none, vr 498, vr 499, vr 500, vi 936 0, vi 378 0, vs "/claim/cut.py" 937] }) ::
  (nat_lit 502, fo (mst 77 5) "Match.ended" "snobol.pattern_machine" 811 501) ::
  (nat_lit 503, { cls := Value.type "tuple", data := Data.seq #[] }) ::
  (nat_lit 505, { cls := Value.type "tuple", data := Data.seq #[vs "self" 942, vs "order" 943, vs "way" 944, vs "word" 945] }) ::
  (nat_lit 506, { cls := Value.type "tuple", data := Data.seq #[] }) ::
  (nat_lit 508, { cls := Value.type "code", data := Data.fields #[vs "other" 939, vs "Match.other" 940, vs "/claim/cut.py" 941, vi 389 0, vi 3 0, vi 0 0, vi 0 0, vi 3 0, vr 503, Value.bool true, vi 181 0, vr 504, Value.none, vr 505, vr 506, vr 507, vi 946 0, vi 389 0, vs "/claim/cut.py" 947] }) ::
  (nat_lit 509, fo (mst 77 6) "Match.other" "snobol.pattern_machine" 811 508) ::
  (nat_lit 510, { cls := Value.type "tuple", data := Data.seq #[] }) ::
  (nat_lit 512, { cls := Value.type "tuple", data := Data.seq #[vs "self" 952, vs "way" 953, vs "ends" 954, vs "end" 955, vs "other" 956] }) ::
  (nat_lit 513, { cls := Value.type "tuple", data := Data.seq #[] }) ::
  (nat_lit 515, { cls := Value.type "code", data := Data.fields #[vs "met_often" 949, vs "Match.met_often" 950, vs "/claim/cut.py" 951, vi 407 0, vi 3 0, vi 0 0, vi 0 0, vi 3 0, vr 510, Value.bool true, vi 181 0, vr 511, Value.none, vr 512, vr 513, vr 514, vi 957 0, vi 407 0, vs "/claim/cut.py" 958] }) ::
  (nat_lit 516, fo (mst 77 7) "Match.met_often" "snobol.pattern_machine" 811 515) ::
  (nat_lit 517, { cls := Value.type "tuple", data := Data.seq #[] }) ::
  (nat_lit 519, { cls := Value.type "tuple", data := Data.seq #[vs "self" 963, vs "tree" 964, vs "way" 965, vs "value" 966] }) ::
  (nat_lit 520, { cls := Value.type "tuple", data := Data.seq #[] }) ::
  (nat_lit 522, { cls := Value.type "code", data := Data.fields #[vs "asked" 960, vs "Match.asked" 961, vs "/claim/cut.py" 962, vi 418 0, vi 3 0, vi 0 0, vi 0 0, vi 3 0, vr 517, Value.bool true, vi 181 0, vr 518, Value.none, vr 519, vr 520, vr 521, vi 967 0, vi 418 0, vs "/claim/cut.py" 968] }) ::
  (nat_lit 523, fo (mst 77 8) "Match.asked" "snobol.pattern_machine" 811 522) ::
  (nat_lit 524, { cls := Value.type "tuple", data := Data.seq #[vs "history" 970, vs "host" 971, vs "subject" 972] }) ::
  (nat_lit 525, { cls := Value.type "dict", data := Data.dict #[en P "__module__" 873 (vs "snobol.pattern_machine" 811), en P "__firstlineno__" 877 (vi 317 876), en P "__init__" 886 (vr 467), en P "run" 897 (vr 474), en P "way_back" 904 (vr 481), en P "done" 914 (vr 488), en P "met_once" 926 (vr 495), en P "ended" 938 (vr 502), en P "other" 948 (vr 509), en P "met_often" 959 (vr 516), en P "asked" 969 (vr 523), en P "__static_attributes__" 973 (vr 524), en P "__dict__" 975 (vr 527), en P "__weakref__" 977 (vr 528), en P "__doc__" 978 (Value.none)] 4 }) ::
  (nat_lit 526, { cls := Value.type "type", data := Data.cls { name := Str.ofString "Match", bases := [Value.type "object"], mro := [vr 526, Value.type "object"], ns := 525, qualname := Str.ofString "Match" }, slots := #[none, none, some (vs "Match" 866), some (vs "Match" 874), some (Value.builtin "object.__new__"), some (Value.bool true)] }) ::
  (nat_lit 527, { cls := Value.type "getset_descriptor", data := Data.fields #[vs "__dict__" 974, vr 526, Value.builtin "function.__dict__", Value.builtin "function.__dict__#set"] }) ::
  (nat_lit 528, { cls := Value.type "getset_descriptor", data := Data.fields #[vs "__weakref__" 976, vr 526, Value.builtin "ExceptionGroup.__weakref__", Value.none] }) ::
  (nat_lit 531, { cls := Value.type "tuple", data := Data.seq #[] }) ::
  (nat_lit 533, { cls := Value.type "tuple", data := Data.seq #[vs "named" 984, vs "found" 985, vs "last" 986] }) ::
  (nat_lit 534, { cls := Value.type "tuple", data := Data.seq #[] }) ::
  (nat_lit 536, { cls := Value.type "code", data := Data.fields #[vs "named_rows" 981, vs "named_rows" 982, vs "/claim/cut.py" 983, vi 425 0, vi 1 0, vi 0 0, vi 0 0, vi 3 0, vr 531, Value.bool true, vi 181 0, vr 532, Value.none, vr 533, vr 534, vr 535, vi 987 0, vi 425 0, vs "/claim/cut.py" 988] }) ::
  (nat_lit 537, fo (tst 78) "named_rows" "snobol.pattern_machine" 811 536) ::
  (nat_lit 538, { cls := Value.type "tuple", data := Data.seq #[] }) ::
  (nat_lit 540, { cls := Value.type "tuple", data := Data.seq #[vs "orders" 993, vs "subject" 994, vs "is_anchored" 995, vs "host" 996, vs "begin" 997, vs "how" 998, vs "way" 999] }) ::
  (nat_lit 541, { cls := Value.type "tuple", data := Data.seq #[] }) ::
  (nat_lit 543, { cls := Value.type "code", data := Data.fields #[vs "match_orders" 990, vs "match_orders" 991, vs "/claim/cut.py" 992, vi 432 0, vi 4 0, vi 0 0, vi 0 0, vi 3 0, vr 538, Value.bool true, vi 181 0, vr 539, Value.none, vr 540, vr 541, vr 542, vi 1000 0, vi 432 0, vs "/claim/cut.py" 1001] }) ::
  (nat_lit 544, fo (tst 79) "match_orders" "snobol.pattern_machine" 811 543) ::
  (nat_lit 545, { cls := Value.type "tuple", data := Data.seq #[] }) ::
  (nat_lit 547, { cls := Value.type "tuple", data := Data.seq #[vs "node" 1006, vs "subject" 1007, vs "is_anchored" 1008, vs "host" 1009] }) ::
  (nat_lit 548, { cls := Value.type "tuple", data := Data.seq #[] }) ::
  (nat_lit 550, { cls := Value.type "code", data := Data.fields #[vs "match_compiled" 1003, vs "match_compiled" 1004, vs "/claim/cut.py" 1005, vi 440 0, vi 4 0, vi 0 0, vi 0 0, vi 3 0, vr 545, Value.bool true, vi 181 0, vr 546, Value.none, vr 547, vr 548, vr 549, vi 1010 0, vi 440 0, vs "/claim/cut.py" 1011] }) ::
  (nat_lit 551, fo (tst 80) "match_compiled" "snobol.pattern_machine" 811 550) ::
  (nat_lit 559, { cls := Value.type "tuple", data := Data.seq #[] }) ::
  (nat_lit 561, { cls := Value.type "tuple", data := Data.seq #[vs "self" 1030, vs "values" 1031, vs "limit" 1032, vs "refused" 1033] }) ::
  (nat_lit 562, { cls := Value.type "tuple", data := Data.seq #[] }) ::
  (nat_lit 564, { cls := Value.type "code", data := Data.fields #[vs "__init__" 1027, vs "PlainHost.__init__" 1028, vs "/claim/cut.py" 1029, vi 445 0, vi 4 0, vi 0 0, vi 0 0, vi 3 0, vr 559, Value.bool true, vi 181 0, vr 560, Value.none, vr 561, vr 562, vr 563, vi 1034 0, vi 445 0, vs "/claim/cut.py" 1035] }) ::
  (nat_lit 565, fo (mst 82 0) "PlainHost.__init__" "snobol.hosts" 1013 564) ::
  (nat_lit 566, { cls := Value.type "tuple", data := Data.seq #[] }) ::
  (nat_lit 568, { cls := Value.type "tuple", data := Data.seq #[vs "self" 1040, vs "tree" 1041] }) ::
  (nat_lit 569, { cls := Value.type "tuple", data := Data.seq #[] }) ::
  (nat_lit 571, { cls := Value.type "code", data := Data.fields #[vs "value_of" 1037, vs "PlainHost.value_of" 1038, vs "/claim/cut.py" 1039, vi 453 0, vi 2 0, vi 0 0, vi 0 0, vi 3 0, vr 566, Value.bool true, vi 181 0, vr 567, Value.none, vr 568, vr 569, vr 570, vi 1042 0, vi 453 0, vs "/claim/cut.py" 1043] }) ::
  (nat_lit 572, fo (mst 82 1) "PlainHost.value_of" "snobol.hosts" 1013 571) ::
  (nat_lit 573, { cls := Value.type "tuple", data := Data.seq #[] }) ::
  (nat_lit 575, { cls := Value.type "tuple", data := Data.seq #[vs "self" 1048, vs "ref" 1049, vs "value" 1050] }) ::
  (nat_lit 576, { cls := Value.type "tuple", data := Data.seq #[] }) ::
  (nat_lit 578, { cls := Value.type "code", data := Data.fields #[vs "assign" 1045, vs "PlainHost.assign" 1046, vs "/claim/cut.py" 1047, vi 458 0, vi 3 0, vi 0 0, vi 0 0, vi 3 0, vr 573, Value.bool true, vi 181 0, vr 574, Value.none, vr 575, vr 576, vr 577, vi 1051 0, vi 458 0, vs "/claim/cut.py" 1052] }) ::
  (nat_lit 579, fo (mst 82 2) "PlainHost.assign" "snobol.hosts" 1013 578) ::
  (nat_lit 580, { cls := Value.type "tuple", data := Data.seq #[] }) ::
  (nat_lit 582, { cls := Value.type "tuple", data := Data.seq #[vs "self" 1057] }) ::
  (nat_lit 583, { cls := Value.type "tuple", data := Data.seq #[] }) ::
  (nat_lit 585, { cls := Value.type "code", data := Data.fields #[vs "step" 1054, vs "PlainHost.step" 1055, vs "/claim/cut.py" 1056, vi 465 0, vi 1 0, vi 0 0, vi 0 0, vi 3 0, vr 580, Value.bool true, vi 181 0, vr 581, Value.none, vr 582, vr 583, vr 584, vi 1058 0, vi 465 0, vs "/claim/cut.py" 1059] }) ::
  (nat_lit 586, fo (mst 82 3) "PlainHost.step" "snobol.hosts" 1013 585) ::
  (nat_lit 587, { cls := Value.type "tuple", data := Data.seq #[vs "limit" 1061, vs "log" 1062, vs "refused" 1063, vs "steps" 1064, vs "values" 1065, vs "width" 1066] }) ::
  (nat_lit 588, { cls := Value.type "dict", data := Data.dict #[en P "__module__" 1022 (vs "snobol.hosts" 1013), en P "__firstlineno__" 1026 (vi 443 1025), en P "__init__" 1036 (vr 565), en P "value_of" 1044 (vr 572), en P "assign" 1053 (vr 579), en P "step" 1060 (vr 586), en P "__static_attributes__" 1067 (vr 587), en P "__dict__" 1069 (vr 590), en P "__weakref__" 1071 (vr 591), en P "__doc__" 1072 (Value.none)] 4 }) ::
  (nat_lit 589, { cls := Value.type "type", data := Data.cls { name := Str.ofString "PlainHost", bases := [Value.type "object"], mro := [vr 589, Value.type "object"], ns := 588, qualname := Str.ofString "PlainHost" }, slots := #[none, none, some (vs "PlainHost" 1015), some (vs "PlainHost" 1023), some (Value.builtin "object.__new__"), some (Value.bool true)] }) ::
  (nat_lit 590, { cls := Value.type "getset_descriptor", data := Data.fields #[vs "__dict__" 1068, vr 589, Value.builtin "function.__dict__", Value.builtin "function.__dict__#set"] }) ::
  (nat_lit 591, { cls := Value.type "getset_descriptor", data := Data.fields #[vs "__weakref__" 1070, vr 589, Value.builtin "ExceptionGroup.__weakref__", Value.none] }) ::
  (nat_lit 594, { cls := Value.type "tuple", data := Data.seq #[] }) ::
  (nat_lit 596, { cls := Value.type "tuple", data := Data.seq #[vs "subject" 1080, vs "found" 1081] }) ::
  (nat_lit 597, { cls := Value.type "tuple", data := Data.seq #[] }) ::
  (nat_lit 599, { cls := Value.type "code", data := Data.fields #[vs "three_pieces" 1077, vs "three_pieces" 1078, vs "/claim/cut.py" 1079, vi 470 0, vi 2 0, vi 0 0, vi 0 0, vi 3 0, vr 594, Value.bool true, vi 181 0, vr 595, Value.none, vr 596, vr 597, vr 598, vi 1082 0, vi 470 0, vs "/claim/cut.py" 1083] }) ::
  (nat_lit 600, fo (tst 84) "three_pieces" "snobol.matchcore" 1075 599) ::
  (nat_lit 601, { cls := Value.type "tuple", data := Data.seq #[] }) ::
  (nat_lit 603, { cls := Value.type "tuple", data := Data.seq #[vs "subject" 1088, vs "found" 1089, vs "text" 1090, vs "ahead" 1091, vs "met" 1092, vs "behind" 1093] }) ::
  (nat_lit 604, { cls := Value.type "tuple", data := Data.seq #[] }) ::
  (nat_lit 606, { cls := Value.type "code", data := Data.fields #[vs "spliced" 1085, vs "spliced" 1086, vs "/claim/cut.py" 1087, vi 472 0, vi 3 0, vi 0 0, vi 0 0, vi 3 0, vr 601, Value.bool true, vi 181 0, vr 602, Value.none, vr 603, vr 604, vr 605, vi 1094 0, vi 472 0, vs "/claim/cut.py" 1095] }) ::
  (nat_lit 607, fo (tst 85) "spliced" "snobol.matchcore" 1075 606) ::
  (nat_lit 608, { cls := Value.type "tuple", data := Data.seq #[] }) ::
  (nat_lit 610, { cls := Value.type "tuple", data := Data.seq #[vs "subject" 1102, vs "host" 1103, vs "found" 1104, vs "text" 1105, vs "last" 1106, vs "node" 1107, vs "name" 1108, vs "value" 1109] }) ::
  (nat_lit 611, { cls := Value.type "tuple", data := Data.seq #[] }) ::
  (nat_lit 613, { cls := Value.type "code", data := Data.fields #[vs "_law_moves" 1099, vs "_law_moves" 1100, vs "/claim/cut.py" 1101, vi 476 0, vi 1 0, vi 0 0, vi 0 0, vi 3 0, vr 608, Value.bool true, vi 181 0, vr 609, Value.none, vr 610, vr 611, vr 612, vi 1110 0, vi 476 0, vs "/claim/cut.py" 1111] }) ::
  (nat_lit 614, fo (tst 87) "_law_moves" "law_xm0959_01" 1097 613) ::
  (nat_lit 615, { cls := Value.type "tuple", data := Data.seq #[] }) ::
  (nat_lit 617, { cls := Value.type "tuple", data := Data.seq #[vs "subject" 1116, vs "found" 1117, vs "row" 1118] }) ::
  (nat_lit 618, { cls := Value.type "tuple", data := Data.seq #[] }) ::
  (nat_lit 620, { cls := Value.type "code", data := Data.fields #[vs "_law_sum" 1113, vs "_law_sum" 1114, vs "/claim/cut.py" 1115, vi 488 0, vi 1 0, vi 0 0, vi 0 0, vi 3 0, vr 615, Value.bool true, vi 181 0, vr 616, Value.none, vr 617, vr 618, vr 619, vi 1119 0, vi 488 0, vs "/claim/cut.py" 1120] }) ::
  (nat_lit 621, fo (tst 88) "_law_sum" "law_xm0959_01" 1097 620) ::
  (nat_lit 622, { cls := Value.type "tuple", data := Data.seq #[] }) ::
  (nat_lit 625, { cls := Value.type "code", data := Data.fields #[vs "law" 1122, vs "law" 1123, vs "/claim/cut.py" 1124, vi 493 0, vi 1 0, vi 0 0, vi 0 0, vi 3 0, vr 622, Value.bool true, vi 181 0, vr 623, Value.none, Value.none, Value.none, vr 624, vi 1125 0, vi 493 0, vs "/claim/cut.py" 1126] }) ::
  (nat_lit 626, fo (tst 89) "law" "law_xm0959_01" 1097 625) :: []
noncomputable def as9 : List Addr := [2, 3, 15, 16, 17, 19, 20, 22, 23, 24, 26, 27, 29, 30, 31, 33, 34, 36, 37, 45, 47, 48, 50, 51, 52, 54, 55, 57, 58, 59, 61, 62, 64, 65, 66, 69, 70, 71, 73, 74, 76, 77, 78, 80, 81, 83, 84, 85, 87, 88, 90, 91, 92, 93, 94, 95, 96, 99, 101, 102, 104, 105, 106, 108, 109, 111, 112, 113, 116, 121, 122, 123, 125, 126, 128, 129, 130, 131, 132, 133, 143, 144, 145, 146, 147, 157, 159, 160, 162, 163, 164, 165, 166, 167, 168, 178, 180, 181, 183, 184, 185, 186, 187, 188, 189, 199, 201, 202, 204, 205, 206, 207, 208, 209, 210, 213, 215, 216, 218, 219, 220, 222, 223, 225, 226, 227, 229, 230, 232, 233, 234, 236, 237, 239, 240, 241, 243, 244, 246, 247, 248, 250, 251, 253, 254, 255, 257, 258, 260, 261, 262, 263, 264, 265, 267, 268, 270, 271, 272, 274, 275, 277, 278, 279, 281, 282, 284, 285, 286, 288, 289, 291, 292, 293, 295, 296, 298, 299, 300, 302, 303, 305, 306, 307, 309, 310, 312, 313, 314, 316, 317, 319, 320, 321, 323, 324, 326, 327, 328, 330, 331, 333, 334, 335, 337, 338, 340, 341, 342, 344, 345, 347, 348, 349, 351, 352, 354, 355, 356, 358, 359, 361, 362, 363, 365, 366, 368, 369, 370, 372, 373, 375, 376, 377, 379, 380, 382, 383, 384, 386, 387, 389, 390, 391, 393, 394, 396, 397, 398, 400, 401, 403, 404, 405, 407, 408, 410, 411, 412, 414, 415, 417, 418, 419, 421, 422, 424, 425, 433, 435, 436, 438, 439, 440, 442, 443, 445, 446, 447, 448, 449, 450, 451, 461, 463, 464, 466, 467, 468, 470, 471, 473, 474, 475, 477, 478, 480, 481, 482, 484, 485, 487, 488, 489, 491, 492, 494, 495, 496, 498, 499, 501, 502, 503, 505, 506, 508, 509, 510, 512, 513, 515, 516, 517, 519, 520, 522, 523, 524, 525, 526, 527, 528, 531, 533, 534, 536, 537, 538, 540, 541, 543, 544, 545, 547, 548, 550, 551, 559, 561, 562, 564, 565, 566, 568, 569, 571, 572, 573, 575, 576, 578, 579, 580, 582, 583, 585, 586, 587, 588, 589, 590, 591, 594, 596, 597, 599, 600, 601, 603, 604, 606, 607, 608, 610, 611, 613, 614, 615, 617, 618, 620, 621, 622, 625, 626]
end Mine
end
section
namespace Mine
open PySem PySem.W PySem.Calls PyProof.Rows
noncomputable def V9 : Program := view PySem.Challenge.rw_xm0959_01.row.prog [1, 2, 3, 4, 5, 6, 7, 8, 9, 10, 11, 12, 13, 14, 15, 16, 17, 18, 19, 20, 21, 22, 23, 24, 25, 26, 27, 28, 30, 31, 32, 33, 34, 35, 36, 37, 38, 39, 40, 41, 43, 44, 45, 47, 48, 49, 50, 52, 53, 54, 55, 56, 57, 58, 59, 60, 61, 62, 63, 64, 65, 66, 67, 68, 69, 70, 71, 73, 74, 75, 76, 77, 78, 79, 80, 82, 84, 85, 87, 88, 89]
noncomputable def L9 : List Str := [Str.ofString "SnobolError", Str.ofString "plain_count"]
end Mine
end
section
namespace Mine
open PySem PySem.W PySem.Calls PyProof.Rows
theorem as9_of (P : Params) : as9 = (K9 P).map (·.1) := by kernel_rfl!
noncomputable abbrev H9 : Hook := kHook K9 as9 as9_of
theorem said8 : PySem.W.Fast.tw9446332074065402090 PySem.Challenge.rw_xm0959_01 = true := by decide +kernel
theorem said_of {f : OpenLaw → Bool} {l : OpenLaw} (h : OpenLaw.wellSaid = f) (e : f l = true) : l.wellSaid = true := by rw [h]; exact e
theorem said9 : PySem.Challenge.rw_xm0959_01.wellSaid = true := said_of PySem.W.Fast.te9446332074065402090 said8
noncomputable abbrev R9 : RowW := PySem.Challenge.rw_xm0959_01.row.toRowW
noncomputable abbrev XT9 (s : Shared) : Bool := xlAt V9 [] s && recOk (RowW.records R9) s
lay_quick topRunT treeTable looksA1 looksA3 looksB1 looksB2 looksB3 goodB1 goodB3
theorem ev1 : ∀ (w : World) (os : OsState), (PySem.W.Fast.tw8941956224279638915 PySem.W.Fast.tw14364793385576792824 pr w 11 (some (.ref 6)) 4400 (s0T w.params os) (topStub pr)).map (fun s => PySem.W.Fast.tw14112939645028425052 pr (boot_heap w.params) s.abs) = some (true) := by
  intro w os
  kernel_rfl
theorem ev2 : ∀ (w : World) (os : OsState), (PySem.W.Fast.tw8941956224279638915 PySem.W.Fast.tw14364793385576792824 pr w 11 (some (.ref 6)) 4400 (s0T w.params os) (topStub pr)).map (fun s => PySem.W.Fast.tw507393128400254079 V9 s.abs) = some (PySem.W.Fast.tw16684281494408162002 V9) := by
  intro w os
  kernel_rfl
theorem ev4 : ∀ (w : World) (os : OsState), (PySem.W.Fast.tw8941956224279638915 PySem.W.Fast.tw14364793385576792824 pr w 11 (some (.ref 6)) 4400 (s0T w.params os) (topStub pr)).map (fun s => PySem.W.Fast.tw13381733833855304419 pr V9 L9 (RowW.records R9) s.abs) = some (true) := by
  intro w os
  kernel_rfl
theorem ev5 : ∀ (w : World) (os : OsState), (PySem.W.Fast.tw8941956224279638915 PySem.W.Fast.tw14364793385576792824 pr w 11 (some (.ref 6)) 4400 (s0T w.params os) (topStub pr)).map (fun s => PySem.W.Fast.tw4387746618488012193 V9 L9 s.abs) = some (PySem.W.Fast.tw8302560156593569624 V9 L9) := by
  intro w os
  kernel_rfl
theorem ev3 : ∀ (w : World) (os : OsState), (PySem.W.Fast.tw8941956224279638915 PySem.W.Fast.tw14364793385576792824 pr w 11 (some (.ref 6)) 4400 (s0T w.params os) (topStub pr)).map (fun s => PySem.W.Fast.tw17128540904105784627 as9 s.abs) = some ((K9 w.params).map fun p => some p.2) := by
  intro w os
  kernel_rfl
theorem boot9 (P : Params) : ((boot_heap P).isNs mainGlobals && (Array.mk ([] : List GenState)).size == 0) = true ∧ (boot_heap P).objs.size = 11 ∧ (boot_heap P).nsMap mainGlobals "__annotations__" = some (.ref 6) := ⟨by kernel_rfl!, by kernel_rfl!, by kernel_rfl!⟩
theorem s0_abs (P : Params) (os : OsState) : (s0T P os).abs = ⟨boot_heap P, Array.mk [], boot_drawn, boot_toks, os⟩ := by kernel_rfl!
theorem open9 : opening pr = plainProg pr.main.scope.names := by kernel_rfl!
theorem fence9 (s : Shared) : fenceModules? pr s = some s := by kernel_rfl!
theorem left9 : LeftO pr V9 L9 XT9 (Hook.obs H9) (Hook.val H9) 4400 := left_of (boot_open open9 (by decide) fence9) boot9 s0_abs (ev_of PySem.W.Fast.te8941956224279638915 PySem.W.Fast.te14364793385576792824 PySem.W.Fast.te14112939645028425052 PySem.W.Fast.te507393128400254079 PySem.W.Fast.te13381733833855304419 PySem.W.Fast.te4387746618488012193 PySem.W.Fast.te17128540904105784627 PySem.W.Fast.te16684281494408162002 PySem.W.Fast.te8302560156593569624 ev1 ev2 ev4 ev5 ev3)
end Mine
end
section
namespace Mine
open PySem PySem.W PySem.Calls PySem.Spec PyProof.Rows
theorem nodup_take {ss : List Str} (h : ss.Nodup) {i : Nat} {x : Str} (hx : ss[i]? = some x) : (ss.take i).contains x = false := by
  rw [List.contains_eq_mem, decide_eq_false_iff_not]
  intro hm
  obtain ⟨j, hj, e⟩ := List.getElem_of_mem hm
  have hj' : j < i := by rw [List.length_take] at hj; omega
  obtain ⟨hi, ex⟩ := List.getElem?_eq_some_iff.mp hx
  rw [List.getElem_take] at e
  have := List.pairwise_iff_getElem.mp h j i (by omega) hi hj'
  exact this (e.trans ex.symm)
theorem take_more {ss : List Str} {i : Nat} {x : Str} (hx : ss[i]? = some x) (k : Str) : ((ss.take i).contains k || decide (k = x)) = (ss.take (i + 1)).contains k := by
  rw [List.take_add_one, hx, List.contains_eq_mem, List.contains_eq_mem]
  simp only [Option.toList_some, List.mem_append, List.mem_singleton, Bool.decide_or]
section
variable {prog : Program} {w : World} {A : Around} {R : Result → Shared → Prop} {I : Addr} {fp wr : List Addr} {G : Array GenState → Array GenState → Prop} {n : Nat} {P : Nat → Value → Prop} {St : Nat → Shared → Prop}
/-- the set's filling from unlike texts: each one is new -/
theorem fill_strs (W : WalksS prog w A.in1 I fp wr G n P St) (S : Addr) (hSf : S ∉ fp) (ss : List Str) (hnd : ss.Nodup) (hP : ∀ i v, P i v → ∃ x t, v = .str x t ∧ ss[i]? = some x) (hb : n + 1 < scanBound) :
    ∀ (k i : Nat) (s : Shared), n - i = k → i ≤ n → St i s → s.heap.SetOf (strKind prog w) S (fun x => (ss.take i).contains x) i →
      (∀ s', Moved (S :: wr) G s s' → s'.heap.SetOf (strKind prog w) S (fun x => (ss.take n).contains x) n → R (.ok (.ret .none)) s') →
      codeAny (model prog w) A (.builtin "set.update.loop" ⟨[.ref S, .ref I], []⟩) R s
  | 0, i, s, hk, hi, hst, hS, hR => by
    obtain rfl : i = n := by omega
    refine codeAny_builtin F.entry_set_update_loop ?_
    rw [Around.under_plainId F.plain_set_update_loop _]
    show wpAny _ A.in1 (pyNext (.ref I) >>= _) _ _ s
    refine wpAny_bind (W.done s _ _ hst fun s' hm => ?_)
    show wpAny _ A.in1 (ret Value.none) _ _ s'
    refine wpAny_pure (hR s' (hm.mono fun b hb => .tail _ hb) ?_)
    obtain ⟨o, es, ep, t, ho, rest⟩ := hS
    exact ⟨o, es, ep, t, hm.heap S _ (fun h => hSf (W.sub _ h)) ho, rest⟩
  | k + 1, i, s, hk, hi, hst, hS, hR => by
    refine codeAny_builtin F.entry_set_update_loop ?_
    rw [Around.under_plainId F.plain_set_update_loop _]
    show wpAny _ A.in1 (pyNext (.ref I) >>= _) _ _ s
    refine wpAny_bind (W.item i s _ _ (by omega) hst fun v s' hv hst' hm => ?_)
    obtain ⟨x, t, rfl, hx⟩ := hP i v hv
    have hS' : s'.heap.SetOf (strKind prog w) S (fun x => (ss.take i).contains x) i := by
      obtain ⟨o, es, ep, tb, ho, rest⟩ := hS
      exact ⟨o, es, ep, tb, hm.heap S _ (fun h => hSf (W.sub _ h)) ho, rest⟩
    show wpAny _ A.in1 (holding [Value.str x t] (setAdd S (.str x t)) >>= _) _ _ s'
    refine wpAny_bind (wpAny_holding ?_)
    unfold setAdd
    refine wpAny_holding (wpAny_bind ((strKind prog w).pyHash (k := x) (strKind_is _ _ _ _) ?_))
    refine wpAny_setAddHashed_of (knd := strKind prog w) (s := { s' with toks := s'.toks + 1 }) (strKind_is _ _ _ _) rfl hS' (by omega) fun h' hsb hS2 => ?_
    rw [nodup_take hnd hx, if_neg Bool.false_ne_true] at hS2
    have hS3 := SetOf_congr (S' := fun y => (ss.take (i + 1)).contains y) hS2 (fun y => take_more hx y) rfl
    refine wpAny_pure ⟨plainId_quiet F.plain_set_update_loop _, fill_strs W S hSf ss hnd hP hb k (i + 1) _ (by omega) (by omega) (W.frame _ s' _ _ hst' (Nat.le_succ _) fun b hb o e => ?_) hS3 fun s'' hm' hS'' => ?_⟩
    · rw [hsb.2 b (fun h : b = S => hSf (h ▸ hb))]; exact e
    · refine hR s'' (Moved.trans W.gtrans ((hm.mono fun b hb => .tail _ hb).then_heap (Nat.le_succ _) fun b o hb e => ?_) hm') hS''
      rw [hsb.2 b (fun h : b = S => hb (h ▸ .head _))]; exact e
end
theorem strs_get {vs : List Value} {ss : List Str} (h : StrsAre vs ss) : ∀ {i : Nat} {v : Value}, vs[i]? = some v → ∃ x t, v = .str x t ∧ ss[i]? = some x := by
  induction h with
  | nil => intro i v hv; simp at hv
  | cons y t _ ih =>
    intro i v hv
    cases i with
    | zero => exact ⟨y, t, by simpa using hv.symm, by simp⟩
    | succ i => simpa using ih (by simpa using hv)
section
variable {prog : Program} {w : World} {A : Around} {E : Value → Shared → Prop} {s : Shared} {h₀ : Heap} {L : Addr} {m : Str → Option Value} {news : List (Addr × Obj)}
noncomputable abbrev newSetObj (led : Bool) : Obj := { cls := .type "set", dict := none, data := .set #[] 0 (.fresh 0 0 led) }
/-- what set(l) leaves -/
noncomputable def SetMade (prog : Program) (w : World) (s : Shared) (ss : List Str) (s₂ : Shared) : Prop :=
  ∃ h' tk, s₂ = { s with heap := h', toks := tk } ∧ h'.SetOf (strKind prog w) s.heap.objs.size (fun x => ss.contains x) ss.length ∧ (∀ b o, b < s.heap.objs.size → s.heap.get? b = some o → h'.get? b = some o)
theorem set_of_strs {l : Addr} {vs : List Value} {ss : List Str} {Q : Value → Shared → Prop} (hh : A.handled = none) (hl : s.heap.IsList l vs.toArray) (hi : StrsAre vs ss) (hnd : ss.Nodup) (hb : ss.length + 1 < scanBound)
    (h : ∀ s₂, SetMade prog w s ss s₂ → Q (.ref s.heap.objs.size) s₂) : wpAny (model prog w) A (call (.type "set") [.ref l]) Q E s := by
  obtain ⟨c, tl, hmro⟩ := F.called_set.mro
  have hmade := F.called_set.made
  have hsub := F.called_set.sub
  have h1 := F.called_set.notType
  have h2 := F.called_set.canCreate
  have hct := F.typeCall_set_1 (.ref l)
  refine wpAny_call (codeAny_of_tree ?_)
  show wpAny _ _ (callAny (.type "set") _) _ _ _
  refine wpAny_pure ⟨Code.quiet_builtin _ (by decide +kernel), codeAny_builtin F.entry_type_call ?_⟩
  rw [Around.under_plain (weight_type_call_type "set" [.ref l] []) rfl]
  repeat (any_goals (first | assumption | wp_step))
  refine codeAny_mono (code_set_new_1 (.ref l) (E := E) (Q₁ := fun obj s₁ => ∃ led : Bool, obj = .ref s.heap.objs.size ∧ s₁ = { s with heap := s.heap.push (newSetObj led) }) fun led => ⟨led, rfl, rfl⟩) fun r s₁ hr => ?_
  match r, hr with
  | .error e, hr => exact hr
  | .ok (.ret obj), hr =>
    obtain ⟨led, rfl, rfl⟩ := hr
    have hS : (s.heap.push (newSetObj led)).get? s.heap.objs.size = some (newSetObj led) := Heap.get?_push_size _ rfl
    have hT : Shared.TypeIs { s with heap := s.heap.push (newSetObj led) } (.ref s.heap.objs.size) "set" := ⟨_, hS, rfl⟩
    have hli := F.called_set.init.lookup
    have hbi := F.called_set.init.bind (.ref s.heap.objs.size)
    repeat (any_goals (first | assumption | wp_step))
    refine codeAny_mono (codeAny_call_builtin (R := wants (fun r s₂ => r = .none ∧ SetMade prog w s ss s₂) E) F.called_set.init.plain F.entry_set_init (check_set_init_1 hT ?_)) fun r₂ s₂ hr₂ => ?_
    · obtain ⟨⟨ocls, odict, odata, oslots⟩, hol, hcl, nl, hdl⟩ := hl
      dsimp only at hcl hdl
      subst hcl hdl
      have hlS : l < s.heap.objs.size := Heap.lt_size hol
      have hol' : (s.heap.push (newSetObj led)).get? l = some { cls := .type "list", dict := odict, data := .seq vs.toArray nl, slots := oslots } := Heap.get?_push_of_some _ hol
      have hl1 : (s.heap.push (newSetObj led)).IsList l vs.toArray := ⟨_, hol', rfl, nl, rfl⟩
      have hsls := F.sub_list_set
      have hslf := F.sub_list_frozenset
      have hne : (Value.type "list" == Value.type "dict") = false := by decide
      unfold Builtin.«set.__init__» noKeywords Builtin.Frozenset.updateFrom
      generalize hPI : pyIter = PI
      wp_walk
      subst hPI
      refine wpAny_pyIter_list hl1 (wpAny_bind (wpAny_runValue ?_))
      have hh3 : A.in1.in1.in1.handled = none := by simp [hh]
      have hI : (s.heap.push (newSetObj led)).objs.size = s.heap.objs.size + 1 := Heap.size_push _ _
      have hneI : l ≠ (s.heap.push (newSetObj led)).objs.size := by rw [hI]; exact Nat.ne_of_lt (Nat.lt_succ_of_lt hlS)
      have hSf : s.heap.objs.size ∉ [(s.heap.push (newSetObj led)).objs.size, l] := by
        rw [hI]
        intro q
        rcases List.mem_cons.mp q with q | q
        · exact absurd q (Nat.ne_of_lt (Nat.lt_succ_self _))
        · exact absurd (List.mem_singleton.mp q) (Nat.ne_of_gt hlS)
      have hlen : vs.toArray.size = ss.length := by rw [List.size_toArray]; exact hi.length
      refine fill_strs ((Walks.list hh3 _ l hneI vs.toArray).toS) s.heap.objs.size hSf ss hnd (fun i v hv => strs_get hi (by simpa using hv)) (by rw [hlen]; exact hb) (vs.toArray.size - 0) 0 _ rfl (Nat.zero_le _)
        ⟨⟨_, Heap.get?_push_size _ rfl, rfl, rfl⟩, hl1.push _⟩ ?ksA ?ksB
      case ksA => exact SetOf_congr ((setObjOf_fresh (knd := strKind prog w) led).setOf (Heap.get?_push_of_some _ hS) (by unfold scanBound; omega)) (fun _ => rfl) rfl
      case ksB =>
        rintro ⟨h', g', d', tk', os'⟩ hm hS'
        obtain rfl : g' = s.gens := hm.gens
        obtain rfl : d' = s.drawn := hm.drawn
        obtain rfl : os' = s.os := hm.os
        rw [hlen, List.take_length] at hS'
        show wpAny _ _ _ _ _ _
        refine wpAny_pure ?_
        show wpAny _ _ (ret Value.none) _ _ _
        refine wpAny_pure ⟨rfl, h', tk', rfl, hS', fun b o hb e => hm.heap b o (fun q => ?_) (Heap.get?_push_of_some _ (Heap.get?_push_of_some _ e))⟩
        rcases List.mem_cons.mp q with q | q
        · exact absurd q (Nat.ne_of_lt hb)
        · rw [List.mem_singleton.mp q, hI] at hb
          exact absurd hb (by omega)
    · match r₂, hr₂ with
      | .error e, hr₂ => exact hr₂
      | .ok (.ret r), hr₂ =>
        obtain ⟨rfl, hm⟩ := hr₂
        obtain ⟨h', tk, rfl, hS', hk'⟩ := hm
        repeat (any_goals (first | assumption | wp_step))
        exact h _ ⟨h', tk, rfl, hS', hk'⟩
      | .ok .next, hr₂ => exact hr₂.elim
      | .ok .brk, hr₂ => exact hr₂.elim
      | .ok .cont, hr₂ => exact hr₂.elim
  | .ok .next, hr => exact hr.elim
  | .ok .brk, hr => exact hr.elim
  | .ok .cont, hr => exact hr.elim
theorem kss_new {l : Addr} {vs : List Value} {ss : List Str} {Q : Value → Shared → Prop} (F : Fr h₀ L s.heap m) (N : News h₀ L s.heap news) (hh : A.handled = none) (hl : s.heap.IsList l vs.toArray) (hi : StrsAre vs ss) (hnd : ss.Nodup) (hb : ss.length + 1 < scanBound)
    (h : ∀ D h' (tk : Nat) o, Fr h₀ L h' m → News h₀ L h' ((D, o) :: news) → (∀ p ∈ news, p.1 < D) → o.SetObjOf (strKind prog w) (fun x => ss.contains x) ss.length → Q (.ref D) { s with heap := h', toks := tk }) :
    wpAny (model prog w) A (call (.type "set") [.ref l]) Q E s := by
  refine set_of_strs hh hl hi hnd hb ?_
  rintro _ ⟨h', tk, rfl, hS, hk⟩
  obtain ⟨o, ho, hso⟩ := hS.objOf
  refine h _ h' tk o ⟨F.ns.at' fun o' e => hk L o' F.ns.lt e, fun b o' e => hk b o' (Heap.lt_size (F.keep b o' e)) (F.keep b o' e), F.above⟩ (fun p hp => ?_) (fun p hp => Heap.lt_size (N p hp).1) hso
  rcases List.mem_cons.mp hp with rfl | hp
  · exact ⟨ho, Nat.ne_of_gt F.ns.lt, next_is_new F⟩
  · exact ⟨hk _ _ (Heap.lt_size (N p hp).1) (N p hp).1, (N p hp).2⟩
end
end Mine
end
section
namespace Mine
open PySem PySem.W PySem.Calls PySem.Spec PyProof.Rows PyProof.Rows.LCg PyProof.Rows.LCt
section
variable {prog : Program} {w : World} {A : Around} {s : Shared} {h₀ : Heap} {L : Addr} {m : Str → Option Value} {env : Env} {ct elt : Expr} {x : Str} {scope : Scope} {cl : List (Str × Addr)} {S : List (Addr × Obj) → Prop} {P : Nat → Value → Prop} {Fin : List Value → List (Addr × Obj) → Prop} {n : Nat}
theorem compEnd_mono {s₁ : Shared} {I C D : Addr} {oI oC oD : Obj} {r r' : Value → List (Addr × Obj) → Prop} {y y' : Value} {s₂ : Shared} (h : CompEnd h₀ L m s₁ I oI C oC D oD S r y s₂) (f : ∀ nx, r y nx → r' y' nx) : CompEnd h₀ L m s₁ I oI C oC D oD S r' y' s₂ := by
  obtain ⟨h', tk, nx, a, b, c, d, e, g⟩ := h
  exact ⟨h', tk, nx, a, b, c, d, e, f nx g⟩
/-- a comprehension's turns by an invariant -/
theorem comp_J (J : Nat → List Value → List (Addr × Obj) → Prop)
    (turn : ∀ i v ys news I oI C oC D m₂ h tk (E' : Value → Shared → Prop), i < n → J i ys news → P i v → NsObj oC m₂ → m₂ x = some v → Fr h₀ L h m → News h₀ L h ((I, oI) :: (C, oC) :: (D, lst ys) :: news) → Off3 I C D news → ((@Ne Nat I C) ∧ (@Ne Nat I D) ∧ (@Ne Nat C D)) →
      wpAny (model prog w) A (eval elt (compEnvC scope cl C env)) (CompEnd h₀ L m { s with heap := h, toks := tk } I oI C oC D (lst ys) S (fun y news' => J (i + 1) (ys ++ [y]) news')) E' { s with heap := h, toks := tk })
    (done : ∀ ys news, J n ys news → Fin ys news) : ∀ k i ys news, i + k = n → J i ys news → CompRest prog w A h₀ L m env elt x scope cl s S P Fin k i ys news
  | 0, i, ys, news, hk, hj => CompRest.zero (done ys news (by have : i = n := by omega
                                                              exact this ▸ hj))
  | k + 1, i, ys, news, hk, hj => CompRest.succ fun v I oI C oC D m₂ h tk E' a b c d e f g =>
      wpAny_mono (turn i v ys news I oI C oC D m₂ h tk E' (by omega) hj a b c d e f g) (fun _ _ p => compEnd_mono p fun nx q => comp_J J turn done k (i + 1) _ nx (by omega) q) fun _ _ e => e
theorem compT_J (J : Nat → List Value → List (Addr × Obj) → Prop)
    (turn : ∀ i v ys news I oI C oC D m₂ h tk (E' : Value → Shared → Prop), i < n → J i ys news → P i v → NsObj oC m₂ → m₂ x = some v → Fr h₀ L h m → News h₀ L h ((I, oI) :: (C, oC) :: (D, lst ys) :: news) → Off3 I C D news → ((@Ne Nat I C) ∧ (@Ne Nat I D) ∧ (@Ne Nat C D)) →
      wpAny (model prog w) A (isTrue ct (compEnvC scope cl C env) (eval ct (compEnvC scope cl C env))) (fun ok s' => if ok = true then
        wpAny (model prog w) A (eval elt (compEnvC scope cl C env)) (CompEnd h₀ L m { s with heap := h, toks := tk } I oI C oC D (lst ys) S (fun y news' => J (i + 1) (ys ++ [y]) news')) E' s'
        else CompEnd h₀ L m { s with heap := h, toks := tk } I oI C oC D (lst ys) S (fun _ news' => J (i + 1) ys news') Value.none s') E' { s with heap := h, toks := tk })
    (done : ∀ ys news, J n ys news → Fin ys news) : ∀ k i ys news, i + k = n → J i ys news → CompRestT prog w A h₀ L m env ct elt x scope cl s S P Fin k i ys news
  | 0, i, ys, news, hk, hj => CompRestT.zero (done ys news (by have : i = n := by omega
                                                               exact this ▸ hj))
  | k + 1, i, ys, news, hk, hj => CompRestT.succ fun v I oI C oC D m₂ h tk E' a b c d e f g =>
      wpAny_mono (turn i v ys news I oI C oC D m₂ h tk E' (by omega) hj a b c d e f g) (fun ok _ p => by
        cases ok with
        | true =>
          simp only [if_true] at p ⊢
          exact wpAny_mono p (fun _ _ p => compEnd_mono p fun nx q => compT_J J turn done k (i + 1) _ nx (by omega) q) fun _ _ e => e
        | false =>
          simp only [Bool.false_eq_true, if_false] at p ⊢
          exact compEnd_mono p fun nx q => compT_J J turn done k (i + 1) _ nx (by omega) q) fun _ _ e => e
/-- the same where the ledger stays -/
theorem comp_L {news : List (Addr × Obj)} (J : Nat → List Value → Prop)
    (turn : ∀ i v ys I oI C oC D m₂ h tk (E' : Value → Shared → Prop), i < n → J i ys → P i v → NsObj oC m₂ → m₂ x = some v → Fr h₀ L h m → News h₀ L h ((I, oI) :: (C, oC) :: (D, lst ys) :: news) → Off3 I C D news → ((@Ne Nat I C) ∧ (@Ne Nat I D) ∧ (@Ne Nat C D)) →
      wpAny (model prog w) A (eval elt (compEnvC scope cl C env)) (CompEnd h₀ L m { s with heap := h, toks := tk } I oI C oC D (lst ys) S (fun y news' => news' = news ∧ J (i + 1) (ys ++ [y]))) E' { s with heap := h, toks := tk })
    (hj : J 0 []) (done : ∀ ys, J n ys → Fin ys news) : CompRest prog w A h₀ L m env elt x scope cl s S P Fin n 0 [] news :=
  comp_J (fun i ys nx => nx = news ∧ J i ys) (fun i v ys nx I oI C oC D m₂ h tk E' hi hJ a b c d e f g => by
    obtain ⟨rfl, hJ⟩ := hJ
    exact turn i v ys I oI C oC D m₂ h tk E' hi hJ a b c d e f g) (fun ys nx hJ => by
    obtain ⟨rfl, hJ⟩ := hJ
    exact done ys hJ) n 0 [] news (Nat.zero_add n) ⟨rfl, hj⟩
theorem compT_L {news : List (Addr × Obj)} (J : Nat → List Value → Prop)
    (turn : ∀ i v ys I oI C oC D m₂ h tk (E' : Value → Shared → Prop), i < n → J i ys → P i v → NsObj oC m₂ → m₂ x = some v → Fr h₀ L h m → News h₀ L h ((I, oI) :: (C, oC) :: (D, lst ys) :: news) → Off3 I C D news → ((@Ne Nat I C) ∧ (@Ne Nat I D) ∧ (@Ne Nat C D)) →
      wpAny (model prog w) A (isTrue ct (compEnvC scope cl C env) (eval ct (compEnvC scope cl C env))) (fun ok s' => if ok = true then
        wpAny (model prog w) A (eval elt (compEnvC scope cl C env)) (CompEnd h₀ L m { s with heap := h, toks := tk } I oI C oC D (lst ys) S (fun y news' => news' = news ∧ J (i + 1) (ys ++ [y]))) E' s'
        else CompEnd h₀ L m { s with heap := h, toks := tk } I oI C oC D (lst ys) S (fun _ news' => news' = news ∧ J (i + 1) ys) Value.none s') E' { s with heap := h, toks := tk })
    (hj : J 0 []) (done : ∀ ys, J n ys → Fin ys news) : CompRestT prog w A h₀ L m env ct elt x scope cl s S P Fin n 0 [] news :=
  compT_J (fun i ys nx => nx = news ∧ J i ys) (fun i v ys nx I oI C oC D m₂ h tk E' hi hJ a b c d e f g => by
    obtain ⟨rfl, hJ⟩ := hJ
    exact turn i v ys I oI C oC D m₂ h tk E' hi hJ a b c d e f g) (fun ys nx hJ => by
    obtain ⟨rfl, hJ⟩ := hJ
    exact done ys hJ) n 0 [] news (Nat.zero_add n) ⟨rfl, hj⟩
end
theorem off3_all {I C D : Addr} : ∀ {l : List (Addr × Obj)}, Off3 I C D l → Apart I l ∧ Apart C l ∧ Apart D l
  | [], _ => ⟨trivial, trivial, trivial⟩
  | p :: r, h => by
    have := off3_all (l := r) h.2
    exact ⟨⟨⟨h.1.1⟩, this.1⟩, ⟨⟨h.1.2.1⟩, this.2.1⟩, ⟨⟨h.1.2.2⟩, this.2.2⟩⟩
theorem off3_of {I C D : Addr} {l : List (Addr × Obj)} (h : Off3 I C D l) (h₁ : (@Ne Nat I C) ∧ (@Ne Nat I D) ∧ (@Ne Nat C D)) : (Ap I C ∧ Ap I D ∧ Apart I l) ∧ (Ap C D ∧ Apart C l) ∧ Apart D l := by
  have := off3_all h
  exact ⟨⟨⟨h₁.1⟩, ⟨h₁.2.1⟩, this.1⟩, ⟨⟨h₁.2.2⟩, this.2.1⟩, this.2.2⟩
theorem three_rows (a : Int) : ∃ n : Nat, 1 + a.fmod 3 = ((n : Nat) : Int) ∧ 1 ≤ n ∧ n ≤ 3 := by
  have h := Int.fmod_nonneg_of_pos a (b := 3) (by decide)
  have h' := Int.fmod_lt_of_pos a (b := 3) (by decide)
  exact ⟨(1 + a.fmod 3).toNat, by omega, by omega, by omega⟩
theorem range_three {h : Heap} {r : Addr} {a : Int} {t u v : Tok} (g : IsRange h r 0 (1 + a.fmod 3) 1 t u v) : ∃ n : Nat, IsRange h r 0 ((n : Nat) : Int) 1 t u v ∧ 1 ≤ n ∧ n ≤ 3 := by
  obtain ⟨n, e, h1, h2⟩ := three_rows a
  exact ⟨n, e ▸ g, h1, h2⟩
theorem rows_size {n : Nat} : Builtin.Range.rangeSize 0 ((n : Nat) : Int) 1 = ((n : Nat) : Int) := (rangeSize_nat _ _).trans (by omega)
end Mine
end
namespace Mine
open PySem.Calls PySem.Spec
open PySem.Calls PySem.Spec

structure NodeC where
  (nd now spn last cur fl xT xJ : Addr)
  (t0 t1 t2 t3 t4 t5 t6 : Tok)
noncomputable def tup1 (a : Value) : Obj := { cls := .type "tuple", data := .seq [a].toArray }
noncomputable def tup2 (a b : Value) : Obj := { cls := .type "tuple", data := .seq [a, b].toArray }
noncomputable def putO (k : Tok) (a : Addr) : Obj := { cls := .type "tuple", data := .seq [.str (Str.ofString "put") k, .ref a].toArray }
noncomputable def emitO (k : Tok) (a : Addr) : Obj := { cls := .type "tuple", data := .seq [.str (Str.ofString "emit") k, .ref a].toArray }
noncomputable def markO (k : Tok) : Obj := { cls := .type "tuple", data := .seq [.str (Str.ofString "mark") k].toArray }
noncomputable def oneO (k1 k2 k3 : Tok) : Obj := { cls := .type "tuple", data := .seq [.str (Str.ofString "one") k1, .str (Str.ofString "span") k2, .str (Str.ofString "1") k3].toArray }
noncomputable def setO (k : Tok) (a : Addr) : Obj := { cls := .type "tuple", data := .seq [.str (Str.ofString "set") k, .ref a].toArray }
noncomputable def placeO (k : Tok) (a : Addr) : Obj := { cls := .type "tuple", data := .seq [.str (Str.ofString "place") k, .ref a].toArray }
noncomputable def failO (k : Tok) : Obj := { cls := .type "tuple", data := .seq [.str (Str.ofString "fail") k].toArray }
noncomputable def doneO (k : Tok) : Obj := { cls := .type "tuple", data := .seq [.str (Str.ofString "done") k].toArray }
noncomputable def ndO (c : NodeC) : Obj := { cls := .type "tuple", data := .seq [.str (Str.ofString "cat") c.t0, .ref c.now, .ref c.last].toArray }
noncomputable def nowO (c : NodeC) : Obj := { cls := .type "tuple", data := .seq [.str (Str.ofString "now") c.t1, .ref c.spn, .ref c.xT].toArray }
noncomputable def spnO (c : NodeC) : Obj := { cls := .type "tuple", data := .seq [.str (Str.ofString "span") c.t2, .str (Str.ofString "1") c.t3].toArray }
noncomputable def lastO (c : NodeC) : Obj := { cls := .type "tuple", data := .seq [.str (Str.ofString "cat") c.t4, .ref c.cur, .ref c.fl].toArray }
noncomputable def curO (c : NodeC) : Obj := { cls := .type "tuple", data := .seq [.str (Str.ofString "cursor") c.t5, .ref c.xJ].toArray }
noncomputable def flO (c : NodeC) : Obj := { cls := .type "tuple", data := .seq [.str (Str.ofString "fail") c.t6].toArray }
noncomputable abbrev nodeLed (c : NodeC) : List (Addr × Obj) :=
  [(c.nd, ndO c), (c.now, nowO c), (c.spn, spnO c), (c.last, lastO c), (c.cur, curO c), (c.fl, flO c)]
noncomputable def codeD (w : World) (ol : Addr) (k : Tok) : Obj := dictOf [({ hash := PyData.keyHash w.params (Str.ofString "orders"), key := .str (Str.ofString "orders") k, val := .ref ol } : DictEntry)] 1
noncomputable abbrev ordLed (o0 o1 o2 o3 o4 o5 xT xJ : Addr) (k0 k1 k2 k3 k4 k5 k6 k7 : Tok) : List (Addr × Obj) :=
  [(o0, markO k0), (o1, oneO k1 k2 k3), (o2, setO k4 xT), (o3, placeO k5 xJ), (o4, failO k6), (o5, doneO k7)]
structure HT where
  (q0 q1 q2 q3 q4 q5 q6 q7 : Tok)
structure RT where
  (u0 u1 u2 u3 u4 : Tok)
structure MMT where
  (r0 r1 r2 : Tok)
structure WT where
  (w0 w1 w2 w3 w4 w5 : Tok)
structure MC where
  (S : Str) (tS : Tok) (ho dh vd rl lg xT dT xJ dJ ol o0 o1 o2 o3 o4 o5 : Addr) (rn en : Nat) (q : HT) (u v : RT) (k0 k1 k2 k3 k4 k5 k6 k7 : Tok)
noncomputable def hostD (w : World) (vd rl lg : Addr) (q : HT) (n : Int) (tn : Tok) : Obj := dictOf [{ hash := PyData.keyHash w.params (Str.ofString "values"), key := .str (Str.ofString "values") q.q0, val := .ref vd }, { hash := PyData.keyHash w.params (Str.ofString "limit"), key := .str (Str.ofString "limit") q.q1, val := .int 9999 q.q6 }, { hash := PyData.keyHash w.params (Str.ofString "refused"), key := .str (Str.ofString "refused") q.q2, val := .ref rl }, { hash := PyData.keyHash w.params (Str.ofString "width"), key := .str (Str.ofString "width") q.q3, val := .int 64 q.q7 }, { hash := PyData.keyHash w.params (Str.ofString "steps"), key := .str (Str.ofString "steps") q.q4, val := .int n tn }, { hash := PyData.keyHash w.params (Str.ofString "log"), key := .str (Str.ofString "log") q.q5, val := .ref lg }] 6
noncomputable def refD (w : World) (k : Str) (u : RT) : Obj := dictOf [{ hash := PyData.keyHash w.params (Str.ofString "kind"), key := .str (Str.ofString "kind") u.u0, val := .str (Str.ofString "var") u.u1 }, { hash := PyData.keyHash w.params (Str.ofString "owner"), key := .str (Str.ofString "owner") u.u2, val := .none }, { hash := PyData.keyHash w.params (Str.ofString "key"), key := .str (Str.ofString "key") u.u3, val := .str k u.u4 }] 3
noncomputable def hostO (w : World) (c : MC) (n : Int) (tn : Tok) : Obj := hostD w c.vd c.rl c.lg c.q n tn
noncomputable def refTO (w : World) (c : MC) : Obj := refD w (Str.ofString "T") c.u
noncomputable def refJO (w : World) (c : MC) : Obj := refD w (Str.ofString "J") c.v
noncomputable def matchO (w : World) (c : MC) (hy : Addr) (r : MMT) : Obj := dictOf [{ hash := PyData.keyHash w.params (Str.ofString "subject"), key := .str (Str.ofString "subject") r.r0, val := .str c.S c.tS }, { hash := PyData.keyHash w.params (Str.ofString "host"), key := .str (Str.ofString "host") r.r1, val := .ref c.ho }, { hash := PyData.keyHash w.params (Str.ofString "history"), key := .str (Str.ofString "history") r.r2, val := .ref hy }] 3
noncomputable def wayO (w : World) (c : MC) (q : WT) (pc : Int) (p0 : Tok) (za : Int) (at0 : Tok) (mk : Value) : Obj := dictOf [{ hash := PyData.keyHash w.params (Str.ofString "orders"), key := .str (Str.ofString "orders") q.w0, val := .ref c.ol }, { hash := PyData.keyHash w.params (Str.ofString "pc"), key := .str (Str.ofString "pc") q.w1, val := .int pc p0 }, { hash := PyData.keyHash w.params (Str.ofString "at"), key := .str (Str.ofString "at") q.w2, val := .int za at0 }, { hash := PyData.keyHash w.params (Str.ofString "named"), key := .str (Str.ofString "named") q.w3, val := .none }, { hash := PyData.keyHash w.params (Str.ofString "marks"), key := .str (Str.ofString "marks") q.w4, val := mk }, { hash := PyData.keyHash w.params (Str.ofString "calls"), key := .str (Str.ofString "calls") q.w5, val := .none }] 6
noncomputable def ordsO (c : MC) : Obj := listOf [.ref c.o0, .ref c.o1, .ref c.o2, .ref c.o3, .ref c.o4, .ref c.o5].toArray c.en
theorem host_foldP {w : World} {c : MC} {n : Int} {tn : Tok} : dictOf [{ hash := PyData.keyHash w.params (Str.ofString "values"), key := .str (Str.ofString "values") c.q.q0, val := .ref c.vd }, { hash := PyData.keyHash w.params (Str.ofString "limit"), key := .str (Str.ofString "limit") c.q.q1, val := .int 9999 c.q.q6 }, { hash := PyData.keyHash w.params (Str.ofString "refused"), key := .str (Str.ofString "refused") c.q.q2, val := .ref c.rl }, { hash := PyData.keyHash w.params (Str.ofString "width"), key := .str (Str.ofString "width") c.q.q3, val := .int 64 c.q.q7 }, { hash := PyData.keyHash w.params (Str.ofString "steps"), key := .str (Str.ofString "steps") c.q.q4, val := .int n tn }, { hash := PyData.keyHash w.params (Str.ofString "log"), key := .str (Str.ofString "log") c.q.q5, val := .ref c.lg }] 6 = hostO w c n tn := rfl
theorem host_fold {w : World} {vd rl lg : Addr} {q0 q1 q2 q3 q4 q5 q6 q7 : Tok} {n : Int} {tn : Tok} : dictOf [{ hash := PyData.keyHash w.params (Str.ofString "values"), key := .str (Str.ofString "values") q0, val := .ref vd }, { hash := PyData.keyHash w.params (Str.ofString "limit"), key := .str (Str.ofString "limit") q1, val := .int 9999 q6 }, { hash := PyData.keyHash w.params (Str.ofString "refused"), key := .str (Str.ofString "refused") q2, val := .ref rl }, { hash := PyData.keyHash w.params (Str.ofString "width"), key := .str (Str.ofString "width") q3, val := .int 64 q7 }, { hash := PyData.keyHash w.params (Str.ofString "steps"), key := .str (Str.ofString "steps") q4, val := .int n tn }, { hash := PyData.keyHash w.params (Str.ofString "log"), key := .str (Str.ofString "log") q5, val := .ref lg }] 6 = hostD w vd rl lg ⟨q0, q1, q2, q3, q4, q5, q6, q7⟩ n tn := rfl
theorem ref_fold {w : World} {k : Str} {u0 u1 u2 u3 u4 : Tok} : dictOf [{ hash := PyData.keyHash w.params (Str.ofString "kind"), key := .str (Str.ofString "kind") u0, val := .str (Str.ofString "var") u1 }, { hash := PyData.keyHash w.params (Str.ofString "owner"), key := .str (Str.ofString "owner") u2, val := .none }, { hash := PyData.keyHash w.params (Str.ofString "key"), key := .str (Str.ofString "key") u3, val := .str k u4 }] 3 = refD w k ⟨u0, u1, u2, u3, u4⟩ := rfl
theorem match_fold {w : World} {c : MC} {hy : Addr} {r0 r1 r2 : Tok} : dictOf [{ hash := PyData.keyHash w.params (Str.ofString "subject"), key := .str (Str.ofString "subject") r0, val := .str c.S c.tS }, { hash := PyData.keyHash w.params (Str.ofString "host"), key := .str (Str.ofString "host") r1, val := .ref c.ho }, { hash := PyData.keyHash w.params (Str.ofString "history"), key := .str (Str.ofString "history") r2, val := .ref hy }] 3 = matchO w c hy ⟨r0, r1, r2⟩ := rfl
theorem way_foldP {w : World} {c : MC} {q : WT} {pc : Int} {p0 : Tok} {za : Int} {at0 : Tok} {mk : Value} : dictOf [{ hash := PyData.keyHash w.params (Str.ofString "orders"), key := .str (Str.ofString "orders") q.w0, val := .ref c.ol }, { hash := PyData.keyHash w.params (Str.ofString "pc"), key := .str (Str.ofString "pc") q.w1, val := .int pc p0 }, { hash := PyData.keyHash w.params (Str.ofString "at"), key := .str (Str.ofString "at") q.w2, val := .int za at0 }, { hash := PyData.keyHash w.params (Str.ofString "named"), key := .str (Str.ofString "named") q.w3, val := .none }, { hash := PyData.keyHash w.params (Str.ofString "marks"), key := .str (Str.ofString "marks") q.w4, val := mk }, { hash := PyData.keyHash w.params (Str.ofString "calls"), key := .str (Str.ofString "calls") q.w5, val := .none }] 6 = wayO w c q pc p0 za at0 mk := rfl
theorem way_fold {w : World} {c : MC} {w0 w1 w2 w3 w4 w5 : Tok} {pc : Int} {p0 : Tok} {za : Int} {at0 : Tok} {mk : Value} : dictOf [{ hash := PyData.keyHash w.params (Str.ofString "orders"), key := .str (Str.ofString "orders") w0, val := .ref c.ol }, { hash := PyData.keyHash w.params (Str.ofString "pc"), key := .str (Str.ofString "pc") w1, val := .int pc p0 }, { hash := PyData.keyHash w.params (Str.ofString "at"), key := .str (Str.ofString "at") w2, val := .int za at0 }, { hash := PyData.keyHash w.params (Str.ofString "named"), key := .str (Str.ofString "named") w3, val := .none }, { hash := PyData.keyHash w.params (Str.ofString "marks"), key := .str (Str.ofString "marks") w4, val := mk }, { hash := PyData.keyHash w.params (Str.ofString "calls"), key := .str (Str.ofString "calls") w5, val := .none }] 6 = wayO w c ⟨w0, w1, w2, w3, w4, w5⟩ pc p0 za at0 mk := rfl
theorem code_fold {w : World} {ol : Addr} {k : Tok} : dictOf [({ hash := PyData.keyHash w.params (Str.ofString "orders"), key := .str (Str.ofString "orders") k, val := .ref ol } : DictEntry)] 1 = codeD w ol k := rfl
structure Cx (K : Frag) (p : Program) (loose : List Str) (mean : ExcName → Option Value) (mg mb : Str → Option Value) (cs : Scope) (A : Around) (base : Heap) (outer : List Env) (h₀ : Heap) (L : Addr) (h : Heap) (m : Str → Option Value) (news led own : List (Addr × Obj)) : Prop where
  B : Below A base outer h₀
  F : Fr h₀ L h m
  X : K.In h₀
  N : News h₀ L h news
  hl : ∀ p ∈ led, p ∈ news
  hw : ∀ p ∈ own, p ∈ news
  off : ∀ p ∈ own, ∀ q ∈ led, q.1 ≠ p.1
  T : Top p loose mean mg mb h₀
  hk : cs.kind = .function
theorem Cx.of {K : Frag} {p : Program} {loose : List Str} {mean : ExcName → Option Value} {mg mb : Str → Option Value} {cs : Scope} {A : Around} {base : Heap} {outer : List Env} {h₀ : Heap} {L : Addr} {h : Heap} {m : Str → Option Value} {news led own : List (Addr × Obj)}
    (B : Below A base outer h₀) (F : Fr h₀ L h m) (X : K.In h₀) (N : News h₀ L h news) (hl : ∀ p ∈ led, p ∈ news) (ho : OwnOf led news own) (T : Top p loose mean mg mb h₀) (hk : cs.kind = .function) : Cx K p loose mean mg mb cs A base outer h₀ L h m news led own :=
  ⟨B, F, X, N, hl, OwnOf.sub ho, OwnOf.offR ho, T, hk⟩
local macro_rules | `(tactic| walk_at "shut") => `(tactic| first | done | fail "open")
local macro_rules | `(tactic| k_search $t) => `(tactic| with_reducible show wpAny _ _ $t _ _ _)
local macro_rules | `(tactic| o_item $x) => `(tactic| first | (case $x:ident => walk_at "u_fact") | fail_if_success (case' $x:ident => skip))
local macro_rules | `(tactic| walk_at "u_facts") => `(tactic| (o_item x0; o_item x1; o_item x2; o_item x3; o_item x4; o_item x5; o_item x6; o_item x7; o_item x8))
local macro_rules | `(tactic| ktd_call $n $t) => `(tactic| (k_search (call (Value.ref $n) _); k_dflt (refine' $t; walk_at "u_rest"; walk_at "u_facts"; walk_at "u_in")))
local macro_rules | `(tactic| ktn_call $n $t) => `(tactic| (k_search (call (Value.ref $n) _); k_dflt (refine' $t; walk_at "u_own"; walk_at "u_facts"; walk_at "u_in")))
local macro_rules | `(tactic| size_fits) => `(tactic| first | exact Nat.le_of_ble_eq_true rfl | (simp only [List.size_toArray, Array.size_push, List.length_append, List.length_cons, List.length_nil, PySem.sizeLine_eq]; omega))
local macro_rules | `(tactic| walk_at "ne") => `(tactic| (refine neN ?_; (try dsimp only); first | exact Ap.ne (by with_reducible assumption) | exact (Ap.ne (by with_reducible assumption)).symm | exact Nat.ne_of_lt (by with_reducible assumption) | exact Nat.ne_of_gt (by with_reducible assumption) | with_reducible assumption | exact Ne.symm (by with_reducible assumption)))
local macro_rules | `(tactic| k_ne) => `(tactic| first | walk_at "ne" | (refine neN ?_; (try dsimp only); omega))
local macro_rules | `(tactic| walk_at "fn") => `(tactic| ((with_reducible rename News _ _ _ _ => hN9); refine foldN hN9 ?_; clear hN9; intro l9 hN9))
local macro_rules | `(tactic| tbr_iter $n) => `(tactic| first | exact memI $n rfl | exact memI ($n + 1) rfl | exact memI ($n + 2) rfl | exact memI ($n + 3) rfl)
local macro_rules | `(tactic| walk_at "mem") => `(tactic| first | tbr_iter 0 | tbr_iter 4 | tbr_iter 8 | tbr_iter 12 | tbr_iter 16 | tbr_iter 20 | tbr_iter 24 | tbr_iter 28 | ((repeat (first | exact List.Mem.head _ | refine' List.Mem.tail _ ?_)); walk_at "shut"))
local macro_rules | `(tactic| walk_at "alls") => `(tactic| (refine' Apart.alls ?_; walk_at "apart"))
local macro_rules | `(tactic| walk_at "upd") => `(tactic| first | (refine' Upd.here ?a; (case a => walk_at "apart")) | (refine' Upd.tail ?a ?b; (case a => walk_at "ne"); (case b => walk_at "upd")))
local macro_rules | `(tactic| walk_at "u_ft") => `(tactic| ((repeat ((with_reducible show Facts _ (_ :: _) _); intro _)); first | ((with_reducible show Facts _ [] _); refine facts_any ?_) | (refine facts_tail ?_; intro _)))
local macro_rules | `(tactic| k_lt $h:ident) => `(tactic| (replace $h := Apart.lt $h; refine facts_of $h ?_; clear $h; k_dflt (walk_at "u_ft")))
local macro_rules | `(tactic| tupd_run $h:ident) => `(tactic| (with_reducible intro $h:ident; (try dsimp only [nodeLed, ordLed, List.cons_append, List.nil_append] at $h:ident)))
local macro_rules | `(tactic| walk_at "call ref") => `(tactic| (k_dflt (first
  | (refine' call_cls0A ?k1 ?k2 ?k3 ?k4 ?k5 ?_; (case k1 | k2 | k3 => k_asm); (case k4 | k5 => k_is); k_whole; walk_at "u_in")
  | (refine' call_clsA ?k1 ?k2 ?k3 ?k4 ?k5 ?k6 ?_; (case k1 | k2 | k3 => k_asm); (case k4 | k5 | k6 => k_is); k_whole; walk_at "u_in"; k_enter))))
local macro_rules | `(tactic| walk_at "all_in") => `(tactic| ((repeat (first | exact List.forall_mem_nil _ | refine' List.forall_mem_cons.mpr ⟨by walk_at "mem", ?_⟩ | walk_at "tail_in")); walk_at "shut"))
local macro_rules | `(tactic| walk_at "offs") => `(tactic| (refine' OffL.off ?_; walk_at "apart"))
local macro_rules | `(tactic| walk_at "apart") => `(tactic| ((repeat' (first | refine' Apart.consI ?_ ?_ | refine' Dist.consI ?_ ?_ | refine' And.intro ?_ ?_ | exact trivial | with_reducible assumption | exact Ap.mk (Ne.symm (Ap.ne (by with_reducible assumption))) | exact Ap.mk (by walk_at "ne"))); walk_at "shut"))
local macro_rules | `(tactic| walk_at "dist") => `(tactic| walk_at "apart")
local macro_rules | `(tactic| walk_at "own_of") => `(tactic| first | exact OwnOf.nil | (refine' OwnOf.dropIn ?m ?r; (case m => walk_at "mem"); (case r => walk_at "own_of")) | (refine' OwnOf.put ?a ?r; (case a => walk_at "apart"); (case r => walk_at "own_of")) | walk_at "own_tail")
local macro_rules | `(tactic| walk_at "o_rest") => `(tactic| ((case kA | kF => exact rfl); (case kK => first | exact rfl | assumption); (case k1 | k2 => k_asm); (case k3 | k4 | k5 => k_asm); (case k6 | k7 => k_is); (case k8 => k_room); (case k9 => walk_at "binds"); (case c5 => decide); (case kB => exact locs rfl); (case c2 | c3 | c4 => exact rfl)))
local macro_rules | `(tactic| walk_at "inst") => `(tactic| (refine' InstAt.of_news ?N ?h1 ?h2; (case N => k_asm); (case h1 | h2 => walk_at "mem")))
local macro_rules | `(tactic| walk_at "eval Name") => `(tactic| k_dflt (first
  | (refine' nameX_L ?F ?v ?_ ?a ?b; (case F => k_asm); (case a | b | v => rfl); k_whole)
  | (refine' nameX_K ?F ?X ?T ?e ?_ ?a ?b; (case F | X | T => k_asm); (case a | b => rfl); (case e => k_is); k_whole)))
local macro_rules | `(tactic| walk_at "subscriptTail Name Constant ref int") => `(tactic| k_dflt (refine' item_tupleT ?t ?a ?b ?c ?d ?_; (case t => exact News.isTup (by k_asm) (by walk_at "mem")); (case a | b => decide); (case c | d => rfl); k_whole))
local macro_rules | `(tactic| walk_at "callWith builtin:list.append") => `(tactic| (refine callWith_method1 ?_))
local macro_rules | `(tactic| walk_at "callWith builtin:list.extend") => `(tactic| (refine callWith_method1 ?_))
local macro_rules | `(tactic| walk_at "callWith builtin:list.pop") => `(tactic| (refine callWith_method0 ?_))
local macro_rules | `(tactic| walk_at "callWith builtin:len") => `(tactic| (refine callWith_builtin1 ?_))
local macro_rules | `(tactic| tb_turn $t) => `(tactic| (k_dflt (refine' $t; (case N => k_asm); (case m => walk_at "mem"))))
local macro_rules | `(tactic| walk_at "getMethod ref") => `(tactic| first
  | (k_search (getMethod _ (PySem.Str.ofString "append") _); tb_turn (kl_method ?N ?m PySem.F.slot_list_append PySem.F.type_list_append ?_))
  | (k_search (getMethod _ (PySem.Str.ofString "pop") _); tb_turn (kl_method ?N ?m PySem.F.slot_list_pop PySem.F.type_list_pop ?_))
  | (k_search (getMethod _ (PySem.Str.ofString "extend") _); tb_turn (kl_method ?N ?m PySem.F.slot_list_extend PySem.F.type_list_extend ?_))
  | k_dflt (refine' method_inst ?k1 ?k2 ?k3 ?k4 ?k5 ?k6 ?k7 ?_; (case k1 | k2 => k_asm); (case k3 => walk_at "inst"); (case k4 | k5 | k6 => k_is); (case k7 => k_get); k_whole))
local macro_rules | `(tactic| walk_at "getAttr ref") => `(tactic| k_dflt (refine' get_own ?k1 ?k2 ?k3 ?k4 ?k5 ?k6 ?k7 ?k8 ?k9 ?_; (case k1 | k2 => k_asm); (case k3 => walk_at "inst"); (case k4 | k5 => k_is); (case k6 | k7 => k_is); (case k8 => k_get); (case k9 => k_handed); k_whole))
local macro_rules | `(tactic| walk_at "call builtin:list.append") => `(tactic| (k_dflt (refine' append_K ?k1 ?k2 ?k3 ?_ ?z; (case k1 | k2 => k_asm); (case k3 => walk_at "upd"); (case z => size_fits); k_whole); intro _ _ _; walk_at "fn"; (try k_sweep)))
local macro_rules | `(tactic| walk_at "call builtin:list.pop") => `(tactic| (k_dflt (k_search (call (Value.builtin _) [Value.ref _]); refine' kl_pop ?F ?N ?e ?U ?z ?_; (case F | N => k_asm); (case U => walk_at "upd"); (case e => rfl); (case z => kl_room)); kl_rest; walk_at "fn"))
local macro_rules | `(tactic| walk_at "call builtin:list.extend") => `(tactic| (k_dflt (refine' kxn_extend ?F ?N ?b ?e ?U ?d ?z ?y ?_; (case F | N => k_asm); (case b => walk_at "mem"); (case e => exact rfl); (case U => walk_at "upd"); (case d => kl_no); (case z | y => kl_room)); intro _ _ N'; (try dsimp only at N'); walk_at "fn"; (try k_sweep)))
local macro_rules | `(tactic| walk_at "call builtin:len") => `(tactic| (k_dflt (k_search (call (Value.builtin "len") [Value.ref _]); refine' kun_lenL ?k1 ?k2 ?k3 ?_; (case k1 => exact News.isList (by k_asm) (by walk_at "mem")); (case k2 => kun_count); (case k3 => decide); k_whole)))
local macro_rules | `(tactic| walk_at "strs_are") => `(tactic| first | exact StrsAre.nil | (apply StrsAre.cons; walk_at "strs_are"))
local macro_rules | `(tactic| walk_at "compareOp In str ref") => `(tactic| k_dflt (first
  | ((first | k_search (compareOp _ _ (Value.ref 15)) | k_search (compareOp _ _ (Value.ref 16))); refine' in_tuple_strs ?t ?i ?_; (case t => exact tupK (l := _) (Frag.In.keeps (by k_asm) (Fr.keep (by k_asm))) (by k_is)); (case i => walk_at "strs_are"); k_whole)
  | (refine' in_tuple_strs ?t ?i ?_; (case t => exact News.isTup (by k_asm) (by walk_at "mem")); (case i => walk_at "strs_are"); k_whole)
  | (refine' in_list_strs ?t ?i ?_; (case t => exact News.isList (by k_asm) (by walk_at "mem")); (case i => walk_at "strs_are"); k_whole)))
local macro_rules | `(tactic| lcg_sub) => `(tactic| walk_at "all_in")
local macro_rules | `(tactic| walk_at "eval ListComp") => `(tactic| (k_here; k_dflt (refine LCg.ListComp_U (F₀ := by k_asm) (by with_unfolding_all rfl) (by decide) (by rfl) (by decide) (by rfl) ?_)))
local macro_rules | `(tactic| f_twoF $t) => `(tactic| (have hq8 := ($t).1; have hq7 := ($t).2.1; have hq6 := ($t).2.2))
local macro_rules | `(tactic| walk_at "CompRest") => `(tactic| (with_unfolding_all (refine LCg.CompRest.succ ?_; intro _ _ _ _ _ _ _ _ _ _ hv' _ _ _ _ off' ne'; (first | lcg_open hv' | (obtain ⟨t9', hv9'⟩ := hv'; subst hv9')); (try simp only [LCg.Off3, and_true] at off'); (repeat (f_twoF (And.left off'); replace off' := And.right off')); f_twoF off'; f_twoF ne'; clear off' ne')))
local macro_rules | `(tactic| walk_at "FinE") => `(tactic| ((unfold LCg.FinE); intro _ _ _ _ N' o1'; (try simp only [LCg.Off1, and_true] at o1'); (repeat (have hq9 := And.left o1'; replace o1' := And.right o1')); (try simp only [List.nil_append, List.cons_append] at N'); (try dsimp only)))
local macro_rules | `(tactic| walk_at "callWith ref") => `(tactic| k_dflt (first
  | (refine' callWith_K ?k1 ?k2 ?_; (case k1 => k_asm); (case k2 => k_is); k_whole)
  | (refine' callWith_K0 ?k1 ?k2 ?_; (case k1 => exact Frag.In.keeps (by k_asm) (Fr.keep (by k_asm))); (case k2 => k_is); k_whole)))
local macro_rules | `(tactic| walk_at "And") => `(tactic| ((with_reducible show Frag.In _ _ ∧ _); k_dflt (refine' And.intro (Frag.In.keeps (by k_asm) (Fr.keep (by k_asm))) ?_); try dsimp only [List.nil_append, List.cons_append]))
local macro_rules | `(tactic| walk_at "updF") => `(tactic| first | (refine' UpdF.here ?a; (case a => walk_at "apart")) | (refine' UpdF.tail ?a ?b; (case a => walk_at "ne"); (case b => walk_at "updF")))
local macro_rules | `(tactic| walk_at "setItem ref str") => `(tactic| (k_dflt (refine' kda_set (knd := PySem.strKind _ _) ?F ?N ?U ?d (strKind_is _ _ _ _) ?z ?_; (case F | N => k_asm); (case U => walk_at "updF"); (case d => k_asm); (case z => first | (rw [PySem.sizeLine_eq]; omega) | (refine Nat.le_trans (stored_le _ _ _) ?_; rw [PySem.sizeLine_eq]; omega))); intro _ _ _ N' _; (try dsimp only at N'); walk_at "fn"))
local macro_rules | `(tactic| k_updF) => `(tactic| walk_at "updF")
local macro_rules | `(tactic| walk_at "setAttr ref") => `(tactic| (k_dflt (refine' set_dictF ?k1 ?k2 ?k3 ?k4 ?k5 ?k6 ?k7 ?k8 ?k9 ?k10 ?kt ?k11 ?kf ?k12 ?k13 ?_; (case k1 | k2 | k3 => k_asm); (case k4 => walk_at "inst"); (case k5 => exact rfl); (case k6 | k7 => k_is); (case k8 | k9 => k_is); (case k10 => k_get); (case kt => first | exact tok_eq | exact rfl); (case k11 => k_put); (case kf => with_reducible first | exact host_foldP | exact way_foldP | exact host_fold | exact way_fold | exact match_fold | exact ref_fold | exact code_fold | exact rfl); (case k12 => walk_at "upd"); (case k13 => exact Nat.le_of_ble_eq_true rfl); k_whole; intro _ _ _; walk_at "fn"; (try k_sweep))))
local macro_rules | `(tactic| walk_at "zip") => `(tactic| first | exact ZipB.nil | (refine' ZipB.cons ?zc; (case zc => walk_at "zip")))
local macro_rules | `(tactic| walk_at "binds") => `(tactic| first | (refine' bindsZ ?z ?e; (case z => walk_at "zip"); (case e => kernel_rfl!)) | exact BindsTo.of_eq rfl)
local macro_rules | `(tactic| k_enter) => `(tactic| (refine' code_def ?k1 ?k2 ?k3 ?k4 ?k5 ?kA ?kF ?kK ?k6 ?k7 ?k8 ?k9 ?kB ?_ ?c2 ?c3 ?c4 ?c5; walk_at "o_rest"; k_whole; intro _ _ _ _ _ _ B' _ _; (try dsimp only); (try k_lift B'); (try k_fold); (refine foldA ?_); intro A9))
local macro_rules | `(tactic| walk_at "u_fact") => `(tactic| first | ((with_reducible show Apart _ _); walk_at "apart") | ((with_reducible show Dist _); (try dsimp only); walk_at "apart") | with_reducible assumption | omega | (simp only [Array.size_push, List.size_toArray]; omega) | assumption)
local macro_rules | `(tactic| walk_at "u_rest") => `(tactic| (case k => (refine' Cx.of ?kB ?kF ?kX ?kN ?hl ?ho ?kT ?hk; (case kN => k_asm); (case hl => walk_at "all_in"); (case kB | kF | kX => k_asm); (case ho => walk_at "own_of"); (case kT => k_asm); (case hk => exact rfl))))
local macro_rules | `(tactic| walk_at "u_own") => `(tactic| (case k => (refine' Cx.mk ?kB ?kF ?kX ?kN ?hl ?hw ?off ?kT ?hk; (case kN => k_asm); (case hl => walk_at "all_in"); (case kB | kF | kX => k_asm); (case hw => walk_at "all_in"); (case off => walk_at "offs"); (case kT => k_asm); (case hk => exact rfl))))
local macro_rules | `(tactic| walk_at "u_one") => `(tactic| first
  | ((with_reducible show Apart _ _ → _); tupd_run hq9; (first | (refine facts_of (l := _ :: _) hq9 ?_; clear hq9; walk_at "u_ft") | skip))
  | ((with_reducible show Dist _ → _); tupd_run hq9; refine dfacts_of (l := _ :: _) hq9 ?_; clear hq9; (repeat ((first | (with_reducible show Facts _ (_ :: _) _) | (with_reducible show Facts _ [] (DFacts (_ :: _ :: _) _)) | (with_reducible show DFacts (_ :: _ :: _) _)); intro _)); refine dfacts_last ?_)
  | ((with_reducible show News _ _ _ _ → _); tupd_run hq9; walk_at "fn")
  | ((with_reducible show (∀ p ∈ _, Apart _ _) → _); (with_reducible intro hq9); (try dsimp only at hq9); (try simp only [List.forall_mem_cons, List.forall_mem_nil, and_true] at hq9); (repeat (have hq8 := And.left hq9; replace hq9 := And.right hq9)))
  | ((with_reducible intro hq9); (try dsimp only at hq9)))
local macro_rules | `(tactic| walk_at "u_in") => `(tactic| ((repeat (walk_at "u_one")); (try dsimp only); (try k_sweep)))
local macro_rules | `(tactic| walk_at "subscriptTail Attribute Name") => `(tactic| (k_dflt (refine' item_at ?k1 ?k2 ?k3 ?k4 ?_ ?k6; (case k1 => exact News.isList (by k_asm) (by walk_at "mem")); (case k2 | k3 => decide); (case k4 => rfl); (case k6 => with_unfolding_all rfl); k_whole)))
local macro_rules | `(tactic| walk_at "gen_tok") => `(tactic| ((try dsimp only); (with_reducible refine gen_tok3 ?_); intro _))
local macro_rules | `(tactic| walk_at "execs cons") => `(tactic| walk_at "gen_tok")
local macro_rules | `(tactic| walk_at "execs nil") => `(tactic| walk_at "gen_tok")
local macro_rules | `(tactic| walk_at "spliced") => `(tactic| walk_at "gen_tok")
local macro_rules | `(tactic| k_room) => `(tactic| exact Nat.le_of_ble_eq_true rfl)
section
section
section
open PySem.Calls PySem.Spec
/-- how many strokes stand at the head -/
noncomputable def ones : List Nat → Nat
  | [] => 0
  | c :: r => if c = 49 then ones r + 1 else 0
/-- where the strokes from b on end -/
noncomputable def strokes (S : Str) (b : Nat) : Nat := ones (S.cps.toList.drop b)
theorem strokes_end {S : Str} {b : Nat} (h : S.length ≤ b) : strokes S b = 0 := by
  unfold strokes
  rw [List.drop_eq_nil_of_le (by simpa [Str.length] using h)]
  rfl
theorem strokes_at {S : Str} {b : Nat} (h : b < S.length) : strokes S b = if S.cps.getD b 0 = 49 then strokes S (b + 1) + 1 else 0 := by
  have h' : b < S.cps.toList.length := by simpa [Str.length] using h
  unfold strokes
  rw [List.drop_eq_getElem_cons h']
  show (if S.cps.toList[b] = 49 then _ else _) = _
  have e : S.cps.toList[b] = S.cps.getD b 0 := by
    have h2 : b < S.cps.size := by simpa using h'
    simp [Array.getD, h2]
  rw [e]
theorem strokes_le {S : Str} {b : Nat} (h : b ≤ S.length) : b + strokes S b ≤ S.length := by
  have key : ∀ l : List Nat, ones l ≤ l.length := by
    intro l
    induction l with
    | nil => exact Nat.le_refl _
    | cons c r ih => unfold ones; split <;> simp <;> omega
  have := key (S.cps.toList.drop b)
  have e : (S.cps.toList.drop b).length = S.length - b := by simp [Str.length]
  unfold strokes
  omega
theorem int_sp {x y : Nat} {t : Tok} (e : x = y) : ∃ t', Value.int (x : Int) t = Value.int (y : Int) t' ∧ ([] : List (Addr × Obj)) = [] := ⟨t, by rw [e], rfl⟩
theorem sign_is {S : Str} {b : Nat} {i : Int} (hi : i = (b : Int)) (h : b < S.length) : (!(Builtin.Str.occurrences (Str.ofString "1") (Txt.item S i) 0 (Str.ofString "1").length 1).isEmpty) = decide (S.cps.getD b 0 = 49) := by
  subst hi
  rw [PySem.W.item_meets ⟨by omega, by exact_mod_cast h⟩, PySem.StrLaws.found_one]
  have e : (Str.ofString "1").cps.toList = [49] := by decide +kernel
  rw [e]
  simp
theorem rend_tells : ∀ {w : World} {mean : ExcName → Option Value} {mg mb : Str → Option Value} {e1 e2 e3 e4 e5 e6 e7 e8 e9 : Env} {cn : Str} {cs : Scope} {a : Addr} {ccd : Value} {cl : List (Str × Addr)} {base h₀ : Heap} {L : Addr} {m : Str → Option Value} {news own : List (Addr × Obj)} {s : Shared} {Q E : Value → Shared → Prop}
    {S : Str} {b : Nat} {tS tb t1 : Tok}
    (hC : Cx (K9 w.params) V9 (looseW V9 [Str.ofString "SnobolError", Str.ofString "plain_count"]) mean mg mb cs (((((((((callerA.deeper e1).deeper e2).deeper e3).deeper e4).deeper e5).deeper e6).deeper e7).deeper e8).deeper e9) base [e9, e8, e7, e6, e5, e4, e3, e2, e1] h₀ L s.heap m news ([] : List (Addr × Obj)) own) (hb : b ≤ S.length) (hS : S.length ≤ 1000)
    (hret : ∀ t h' tk', Fr h₀ L h' m → News h₀ L h' ([] ++ own) → Q (.int ((b + strokes S b : Nat) : Int) t) { s with heap := h', toks := tk' }),
    wpAny (model PySem.Challenge.rw_xm0959_01.row.prog w) ((((((((((callerA.deeper e1).deeper e2).deeper e3).deeper e4).deeper e5).deeper e6).deeper e7).deeper e8).deeper e9).deeper (envX cn cs L a ccd cl)) (call (.ref 369) [.str S tS, .int (b : Int) tb, .str (Str.ofString "1") t1, .bool true]) Q E s := by
  k_fill
  intro w mean mg mb e1 e2 e3 e4 e5 e6 e7 e8 e9 cn cs a ccd cl base h₀ L m news own s Q E S b tS tb t1 hC hb hS hret
  obtain ⟨B, F, X, N, hl, hw, off, T, hk⟩ := hC
  refine wpAny_call ?_
  k_dflt (refine' codeO (fun v news' => ∃ t, v = .int ((b + strokes S b : Nat) : Int) t ∧ news' = []) ?k1 ?k2 ?k3 ?k4 ?k5 ?kA ?kF ?kK ?k6 ?k7 ?k8 ?k9 ?kB hl hw (fun p hp q hq e => off p hp q hq e.symm) ?_ ?kR ?c2 ?c3 ?c4 ?c5; walk_at "o_rest")
  case kR => (intro v news' h' tk' F' N' off' hsp; obtain ⟨t, rfl, rfl⟩ := hsp; exact hret t h' tk' F' N')
  intro g' L' h' R' hR' FG' F' N' B' X' T' l1
  clear hl hw off hret N F FG' B T X
  walk_at "fn"
  (try dsimp only); (try k_fold)
  refine foldA ?_
  intro A9
  walk1
  walk1
  refine ksw_while (σ := Nat × Nat) (fun _ => []) (fun c => [(Str.ofString "at", .int ((b + c.1 : Nat) : Int) c.2)]) (fun _ => True) [Str.ofString "at"] (fun c => b + c.1 ≤ S.length ∧ c.1 + strokes S (b + c.1) = strokes S b) (fun c => S.length - (b + c.1)) (0, tb) (by k_asm) (by k_asm) trivial ?k ⟨by simpa using hb, by simp⟩ ?turn
  case k => exact List.forall_mem_cons.mpr ⟨rfl, List.forall_mem_nil _⟩
  case turn =>
    rintro ⟨k, tk⟩ u h₂ tk₂ _ ⟨hp1, hp2⟩ F₂ N₂
    dsimp only at hp1 hp2
    k_steps
    · (rename (_ == true) = true => hs)
      have hlt' : b + k < S.length := by omega
      rw [sign_is (b := b + k) rfl hlt'] at hs
      have hc : S.cps.getD (b + k) 0 = 49 := by simpa using hs
      rw [strokes_at hlt', if_pos hc] at hp2
      refine ksw_end (k + 1, _) (by k_asm) (by k_asm) (List.forall_mem_nil _) trivial (List.forall_mem_cons.mpr ⟨rfl, List.forall_mem_nil _⟩) (by intro z h2 h3; have hz : z ≠ Str.ofString "at" := h2 _ List.mem_cons_self; show (if z = Str.ofString "at" then _ else (if z = Str.ofString "at" then _ else (if [Str.ofString "at"].contains z = true then _ else _))) = _; rw [if_neg hz, if_neg hz, h3]; rfl) ⟨by dsimp only; omega, ?_⟩ (by dsimp only; omega)
      dsimp only
      have e : b + (k + 1) = b + k + 1 := by omega
      rw [e]; omega
    · (first | (rename (_ == true) = false => hs) | (rename ¬ ((_ == true) = true) => hs))
      have hlt' : b + k < S.length := by omega
      rw [sign_is (b := b + k) rfl hlt'] at hs
      have hc : ¬ S.cps.getD (b + k) 0 = 49 := by simpa using hs
      have hst' : strokes S (b + k) = 0 := by rw [strokes_at hlt', if_neg hc]
      have e : b + k = b + strokes S b := by omega
      refine hR' _ _ ?_
      (try dsimp only)
      exact LeaveO.intro (news'' := []) (by k_asm) (by k_asm) (List.forall_mem_nil _) (int_sp e)
    · have hst' : strokes S (b + k) = 0 := strokes_end (by omega)
      have e : b + k = b + strokes S b := by omega
      refine hR' _ _ ?_
      (try dsimp only)
      exact LeaveO.intro (news'' := []) (by k_asm) (by k_asm) (List.forall_mem_nil _) (int_sp e)
end
section
open PySem.Calls PySem.Spec
/-- what the host's log says -/
inductive LogE where
  | T (b e : Nat)
  | J (e : Nat)
noncomputable def LogE.obj (S : Str) : LogE → Tok → Tok → Obj
  | .T b e, c1, c2 => { cls := .type "tuple", data := .seq [.str (Str.ofString "T") c1, .str (Txt.slice S (some (b : Int)) (some (e : Int))) c2].toArray }
  | .J e, c1, c2 => { cls := .type "tuple", data := .seq [.str (Str.ofString "J") c1, .int (e : Int) c2].toArray }
noncomputable abbrev LogRow := Addr × LogE × Tok × Tok
noncomputable def logLed (S : Str) (es : List LogRow) : List (Addr × Obj) := es.map fun x => (x.1, x.2.1.obj S x.2.2.1 x.2.2.2)
noncomputable def logRefs (es : List LogRow) : List Value := es.map fun x => .ref x.1
noncomputable def logOf (S : Str) : Nat → List LogE
  | 0 => []
  | b + 1 => logOf S b ++ (if strokes S b = 0 then [] else [.T b (b + strokes S b), .J (b + strokes S b)])
theorem logOf_len {S : Str} : ∀ {b : Nat}, (logOf S b).length ≤ 2 * b
  | 0 => Nat.le_refl _
  | b + 1 => by
    have := logOf_len (S := S) (b := b)
    unfold logOf
    rw [List.length_append]
    split <;> simp <;> omega
theorem logOf_no {S : Str} {b : Nat} (h : strokes S b = 0) : logOf S (b + 1) = logOf S b := by
  show logOf S b ++ _ = _
  rw [if_pos h, List.append_nil]
theorem logOf_yes {S : Str} {b : Nat} (h : 0 < strokes S b) : logOf S (b + 1) = logOf S b ++ [.T b (b + strokes S b), .J (b + strokes S b)] := by
  show logOf S b ++ _ = _
  rw [if_neg (by omega)]
theorem logRefs_len {S : Str} {es : List LogRow} {b : Nat} (h : es.map (·.2.1) = logOf S b) : (logRefs es).length ≤ 2 * b := by
  have := logOf_len (S := S) (b := b)
  rw [← h] at this
  simpa [logRefs] using this
theorem logRefs_two {es : List LogRow} {x y : LogRow} : ((logRefs es).toArray.push (.ref x.1)).push (.ref y.1) = (logRefs (es ++ [x, y])).toArray := by
  simp [logRefs]
/-- each of these addresses stands beside the ledger -/
noncomputable def Tl (tl : List (Addr × Obj)) : List Addr → Prop
  | [] => True
  | a :: r => Apart a tl ∧ Tl tl r
theorem apart_log {S : Str} {es : List LogRow} {x y : LogRow} {d : Addr} (h : Apart d (logLed S es)) (h1 : @Ne Nat x.1 d) (h2 : @Ne Nat y.1 d) : Apart d (logLed S (es ++ [x, y])) := by
  have e : logLed S (es ++ [x, y]) = logLed S es ++ [(x.1, x.2.1.obj S x.2.2.1 x.2.2.2), (y.1, y.2.1.obj S y.2.2.1 y.2.2.2)] := by simp [logLed]
  rw [e]
  exact h.append ⟨⟨h1⟩, ⟨h2⟩, trivial⟩
theorem log_two {S : Str} {es : List LogRow} {x y : LogRow} {r : List (Addr × Obj)} (h : ∀ p ∈ logLed S es, p ∈ r) (h1 : (x.1, x.2.1.obj S x.2.2.1 x.2.2.2) ∈ r) (h2 : (y.1, y.2.1.obj S y.2.2.1 y.2.2.2) ∈ r) : ∀ p ∈ logLed S (es ++ [x, y]), p ∈ r := by
  have e : logLed S (es ++ [x, y]) = logLed S es ++ [(x.1, x.2.1.obj S x.2.2.1 x.2.2.2), (y.1, y.2.1.obj S y.2.2.1 y.2.2.2)] := by simp [logLed]
  rw [e]
  intro p hp
  rcases List.mem_append.mp hp with hp | hp
  · exact h p hp
  · rcases List.mem_cons.mp hp with rfl | hp
    · exact h1
    · rcases List.mem_cons.mp hp with rfl | hp
      · exact h2
      · cases hp
end
end
end
section
local macro_rules | `(tactic| walk_at "storeName") => `(tactic| (k_dflt (refine' storeF ?F ?N ?_ ?a ?b; (case a | b => rfl); (case F | N => k_asm); k_whole); intro _ _ _ _; (try k_sweep)))
section
section
open PySem.Calls PySem.Spec
theorem dmark_tells : ∀ {w : World} {mean : ExcName → Option Value} {mg mb : Str → Option Value} {e1 e2 e3 e4 : Env} {cn : Str} {cs : Scope} {a : Addr} {ccd : Value} {cl : List (Str × Addr)} {base h₀ : Heap} {L : Addr} {m : Str → Option Value} {news own : List (Addr × Obj)} {s : Shared} {Q E : Value → Shared → Prop}
    {c : MC} {mt wy dw : Addr} {wq : WT} {p0 at0 : Tok} {pc za : Int}
    (hC : Cx (K9 w.params) V9 (looseW V9 [Str.ofString "SnobolError", Str.ofString "plain_count"]) mean mg mb cs ((((callerA.deeper e1).deeper e2).deeper e3).deeper e4) base [e4, e3, e2, e1] h₀ L s.heap m news ((c.o0, markO c.k0) :: (wy, instObj 449 dw) :: (dw, wayO w c wq (pc) p0 (za) at0 (.none)) :: []) own) (hd1 : Apart dw ((wy, instObj 449 dw) :: (c.o0, markO c.k0) :: []))
    (hret : ∀ t p1 h' tk', Fr h₀ L h' m → News h₀ L h' (((t, { cls := .type "tuple", data := .seq [.none, .int za at0].toArray }) :: ((wy, instObj 449 dw) :: (dw, wayO w c wq ((pc + 1)) p1 (za) at0 (.ref t)) :: (c.o0, markO c.k0) :: [])) ++ own) → Apart t ((wy, instObj 449 dw) :: (dw, wayO w c wq (pc) p0 (za) at0 (.none)) :: (c.o0, markO c.k0) :: []) → Apart t own → Q (.bool true) { s with heap := h', toks := tk' }),
    wpAny (model PySem.Challenge.rw_xm0959_01.row.prog w) (((((callerA.deeper e1).deeper e2).deeper e3).deeper e4).deeper (envX cn cs L a ccd cl)) (call (.ref 488) [.ref mt, .ref c.o0, .ref wy]) Q E s := by
  k_fill
  intro w mean mg mb e1 e2 e3 e4 cn cs a ccd cl base h₀ L m news own s Q E c mt wy dw wq p0 at0 pc za hC hd1 hret
  obtain ⟨B, F, X, N, hl, hw, off, T, hk⟩ := hC
  refine wpAny_call ?_
  k_dflt (refine' codeO (fun v news' => ∃ t p1, v = .bool true ∧ news' = (t, { cls := .type "tuple", data := .seq [.none, .int za at0].toArray }) :: ((wy, instObj 449 dw) :: (dw, wayO w c wq ((pc + 1)) p1 (za) at0 (.ref t)) :: (c.o0, markO c.k0) :: []) ∧ Apart t ((wy, instObj 449 dw) :: (dw, wayO w c wq (pc) p0 (za) at0 (.none)) :: (c.o0, markO c.k0) :: [])) ?k1 ?k2 ?k3 ?k4 ?k5 ?kA ?kF ?kK ?k6 ?k7 ?k8 ?k9 ?kB hl hw (fun p hp q hq e => off p hp q hq e.symm) ?_ ?kR ?c2 ?c3 ?c4 ?c5; walk_at "o_rest")
  case kR => (intro v news' h' tk' F' N' off' hsp; obtain ⟨t, p1, rfl, rfl, a0⟩ := hsp; exact hret t p1 h' tk' F' N' a0 (apart_own off' List.mem_cons_self) )
  intro g' L' h' R' hR' FG' F' N' B' X' T' l1
  clear hl hw off hret N F FG' B T X
  k_lt l1
  walk_at "fn"
  (try dsimp only); (try k_fold)
  refine foldA ?_
  intro A9
  (try dsimp only [nodeLed, ordLed, List.cons_append, List.nil_append] at hd1); (first | (refine facts_of (l := _ :: _) hd1 ?_; clear hd1; k_dflt (repeat ((with_reducible show Facts _ (_ :: _) _); intro hq9)); first | ((with_reducible show Facts _ [] _); refine facts_any ?_) | (refine facts_tail ?_; intro hd1)) | (refine dfacts_of (l := _ :: _) hd1 ?_; clear hd1; k_dflt (repeat (first | ((with_reducible show Facts _ (_ :: _) _); intro hq9) | ((with_reducible show Facts _ [] (DFacts (_ :: _ :: _) _)); intro hq9) | ((with_reducible show DFacts (_ :: _ :: _) _); intro hq9))); refine dfacts_last ?_) | skip)
  k_steps
  refine hR' _ _ ?_
  (try dsimp only)
  refine' LeaveO.intro (news'' := (_, { cls := .type "tuple", data := .seq [.none, .int za at0].toArray }) :: ((wy, instObj 449 dw) :: (dw, wayO w c wq ((pc + 1)) _ (za) at0 (.ref _)) :: (c.o0, markO c.k0) :: [])) (by k_asm) (by k_asm) ?sub ⟨_, _, rfl, rfl, ?lt0⟩
  case sub => walk_at "all_in"
  case lt0 => walk_at "apart"
end
section
open PySem.Calls PySem.Spec
theorem dfail_tells : ∀ {w : World} {mean : ExcName → Option Value} {mg mb : Str → Option Value} {e1 e2 e3 e4 : Env} {cn : Str} {cs : Scope} {a : Addr} {ccd : Value} {cl : List (Str × Addr)} {base h₀ : Heap} {L : Addr} {m : Str → Option Value} {news own : List (Addr × Obj)} {s : Shared} {Q E : Value → Shared → Prop}
    {c : MC} {mt wy : Addr} {dm hy : Addr} {r : MMT}
    (hC : Cx (K9 w.params) V9 (looseW V9 [Str.ofString "SnobolError", Str.ofString "plain_count"]) mean mg mb cs ((((callerA.deeper e1).deeper e2).deeper e3).deeper e4) base [e4, e3, e2, e1] h₀ L s.heap m news ((c.o4, failO c.k6) :: (mt, instObj 526 dm) :: (dm, matchO w c hy r) :: []) own)
    (hret : ∀ h' tk', Fr h₀ L h' m → News h₀ L h' ((((mt, instObj 526 dm) :: (dm, matchO w c hy r) :: (c.o4, failO c.k6) :: [])) ++ own) → Q (.bool false) { s with heap := h', toks := tk' }),
    wpAny (model PySem.Challenge.rw_xm0959_01.row.prog w) (((((callerA.deeper e1).deeper e2).deeper e3).deeper e4).deeper (envX cn cs L a ccd cl)) (call (.ref 488) [.ref mt, .ref c.o4, .ref wy]) Q E s := by
  k_fill
  intro w mean mg mb e1 e2 e3 e4 cn cs a ccd cl base h₀ L m news own s Q E c mt wy dm hy r hC  hret
  obtain ⟨B, F, X, N, hl, hw, off, T, hk⟩ := hC
  refine wpAny_call ?_
  k_dflt (refine' codeO (fun v news' => v = .bool false ∧ news' = ((mt, instObj 526 dm) :: (dm, matchO w c hy r) :: (c.o4, failO c.k6) :: [])) ?k1 ?k2 ?k3 ?k4 ?k5 ?kA ?kF ?kK ?k6 ?k7 ?k8 ?k9 ?kB hl hw (fun p hp q hq e => off p hp q hq e.symm) ?_ ?kR ?c2 ?c3 ?c4 ?c5; walk_at "o_rest")
  case kR => (intro v news' h' tk' F' N' off' hsp; obtain ⟨rfl, rfl⟩ := hsp; exact hret  h' tk' F' N'   )
  intro g' L' h' R' hR' FG' F' N' B' X' T' l1
  clear hl hw off hret N F FG' B T X
  k_lt l1
  walk_at "fn"
  (try dsimp only); (try k_fold)
  refine foldA ?_
  intro A9
  k_steps
  refine hR' _ _ ?_
  (try dsimp only)
  refine' LeaveO.intro (news'' := ((mt, instObj 526 dm) :: (dm, matchO w c hy r) :: (c.o4, failO c.k6) :: [])) (by k_asm) (by k_asm) ?sub ⟨rfl, rfl⟩
  case sub => walk_at "all_in"
end
section
open PySem.Calls PySem.Spec
theorem step_tells : ∀ {w : World} {mean : ExcName → Option Value} {mg mb : Str → Option Value} {e1 e2 e3 e4 : Env} {cn : Str} {cs : Scope} {a : Addr} {ccd : Value} {cl : List (Str × Addr)} {base h₀ : Heap} {L : Addr} {m : Str → Option Value} {news own : List (Addr × Obj)} {s : Shared} {Q E : Value → Shared → Prop}
    {c : MC} {n : Int} {tn : Tok}
    (hC : Cx (K9 w.params) V9 (looseW V9 [Str.ofString "SnobolError", Str.ofString "plain_count"]) mean mg mb cs ((((callerA.deeper e1).deeper e2).deeper e3).deeper e4) base [e4, e3, e2, e1] h₀ L s.heap m news ((c.ho, instObj 589 c.dh) :: (c.dh, hostO w c (n) tn) :: []) own) (hd1 : Apart c.dh ((c.ho, instObj 589 c.dh) :: [])) (hn0 : 0 ≤ n) (hn1 : n ≤ 9990)
    (hret : ∀ tn2 h' tk', Fr h₀ L h' m → News h₀ L h' ((((c.ho, instObj 589 c.dh) :: (c.dh, hostO w c ((n + 1)) tn2) :: [])) ++ own) → Q (.none) { s with heap := h', toks := tk' }),
    wpAny (model PySem.Challenge.rw_xm0959_01.row.prog w) (((((callerA.deeper e1).deeper e2).deeper e3).deeper e4).deeper (envX cn cs L a ccd cl)) (call (.ref 586) [.ref c.ho]) Q E s := by
  k_fill
  intro w mean mg mb e1 e2 e3 e4 cn cs a ccd cl base h₀ L m news own s Q E c n tn hC hd1 hn0 hn1 hret
  obtain ⟨B, F, X, N, hl, hw, off, T, hk⟩ := hC
  refine wpAny_call ?_
  k_dflt (refine' codeO (fun v news' => ∃ tn2, v = .none ∧ news' = ((c.ho, instObj 589 c.dh) :: (c.dh, hostO w c ((n + 1)) tn2) :: [])) ?k1 ?k2 ?k3 ?k4 ?k5 ?kA ?kF ?kK ?k6 ?k7 ?k8 ?k9 ?kB hl hw (fun p hp q hq e => off p hp q hq e.symm) ?_ ?kR ?c2 ?c3 ?c4 ?c5; walk_at "o_rest")
  case kR => (intro v news' h' tk' F' N' off' hsp; obtain ⟨tn2, rfl, rfl⟩ := hsp; exact hret tn2 h' tk' F' N'   )
  intro g' L' h' R' hR' FG' F' N' B' X' T' l1
  clear hl hw off hret N F FG' B T X
  k_lt l1
  walk_at "fn"
  (try dsimp only); (try k_fold)
  refine foldA ?_
  intro A9
  (try dsimp only [nodeLed, ordLed, List.cons_append, List.nil_append] at hd1); (first | (refine facts_of (l := _ :: _) hd1 ?_; clear hd1; k_dflt (repeat ((with_reducible show Facts _ (_ :: _) _); intro hq9)); first | ((with_reducible show Facts _ [] _); refine facts_any ?_) | (refine facts_tail ?_; intro hd1)) | (refine dfacts_of (l := _ :: _) hd1 ?_; clear hd1; k_dflt (repeat (first | ((with_reducible show Facts _ (_ :: _) _); intro hq9) | ((with_reducible show Facts _ [] (DFacts (_ :: _ :: _) _)); intro hq9) | ((with_reducible show DFacts (_ :: _ :: _) _); intro hq9))); refine dfacts_last ?_) | skip)
  k_steps
  refine hR' _ _ ?_
  (try dsimp only)
  refine' LeaveO.intro (news'' := ((c.ho, instObj 589 c.dh) :: (c.dh, hostO w c ((n + 1)) _) :: [])) (by k_asm) (by k_asm) ?sub ⟨_, rfl, rfl⟩
  case sub => walk_at "all_in"
end
section
open PySem.Calls PySem.Spec
theorem dset_tells : ∀ {w : World} {mean : ExcName → Option Value} {mg mb : Str → Option Value} {e1 e2 e3 e4 : Env} {cn : Str} {cs : Scope} {a : Addr} {ccd : Value} {cl : List (Str × Addr)} {base h₀ : Heap} {L : Addr} {m : Str → Option Value} {news own : List (Addr × Obj)} {s : Shared} {Q E : Value → Shared → Prop}
    {c : MC} {mt wy dw : Addr} {wq : WT} {p0 at0 : Tok} {dm hy : Addr} {r : MMT} {vo : Obj} {kvs : List (Str × Value)} {itA : Array Value} {ln : Nat} {n : Int} {tn : Tok} {t : Addr} {b0 : Tok} {pc : Int} {b e : Nat}
    (hC : Cx (K9 w.params) V9 (looseW V9 [Str.ofString "SnobolError", Str.ofString "plain_count"]) mean mg mb cs ((((callerA.deeper e1).deeper e2).deeper e3).deeper e4) base [e4, e3, e2, e1] h₀ L s.heap m news ((c.o2, setO c.k4 c.xT) :: (wy, instObj 449 dw) :: (dw, wayO w c wq (pc) p0 ((e : Int)) at0 (.ref t)) :: (t, { cls := .type "tuple", data := .seq [.none, .int (b : Int) b0].toArray }) :: (c.ho, instObj 589 c.dh) :: (c.dh, hostO w c (n) tn) :: (c.vd, vo) :: (c.rl, listOf ([] : List Value).toArray c.rn) :: (c.lg, listOf itA ln) :: (mt, instObj 526 dm) :: (dm, matchO w c hy r) :: (c.xT, instObj 208 c.dT) :: (c.dT, refTO w c) :: []) own) (hd1 : Apart dw ((t, { cls := .type "tuple", data := .seq [.none, .int (b : Int) b0].toArray }) :: (wy, instObj 449 dw) :: (c.ho, instObj 589 c.dh) :: (c.dh, hostO w c n tn) :: (c.rl, listOf ([] : List Value).toArray c.rn) :: (mt, instObj 526 dm) :: (dm, matchO w c hy r) :: (c.o2, setO c.k4 c.xT) :: (c.xT, instObj 208 c.dT) :: (c.dT, refTO w c) :: (c.vd, vo) :: (c.lg, listOf itA ln) :: [])) (hd2 : Apart c.vd ((t, { cls := .type "tuple", data := .seq [.none, .int (b : Int) b0].toArray }) :: (wy, instObj 449 dw) :: (c.ho, instObj 589 c.dh) :: (c.dh, hostO w c n tn) :: (c.rl, listOf ([] : List Value).toArray c.rn) :: (mt, instObj 526 dm) :: (dm, matchO w c hy r) :: (c.o2, setO c.k4 c.xT) :: (c.xT, instObj 208 c.dT) :: (c.dT, refTO w c) :: (c.lg, listOf itA ln) :: [])) (hd3 : Apart c.lg ((t, { cls := .type "tuple", data := .seq [.none, .int (b : Int) b0].toArray }) :: (wy, instObj 449 dw) :: (c.ho, instObj 589 c.dh) :: (c.dh, hostO w c n tn) :: (c.rl, listOf ([] : List Value).toArray c.rn) :: (mt, instObj 526 dm) :: (dm, matchO w c hy r) :: (c.o2, setO c.k4 c.xT) :: (c.xT, instObj 208 c.dT) :: (c.dT, refTO w c) :: (c.vd, vo) :: [])) (hvo : vo.IsDictOf (PySem.strKind PySem.Challenge.rw_xm0959_01.row.prog w) kvs) (hkv : kvs.length ≤ 2000) (hits : itA.size ≤ 2000) (hS : c.S.length ≤ 1000) (hb : b ≤ e) (he : e ≤ c.S.length)
    (hret : ∀ y c1 c2 p1 vo2 kvs2 h' tk', Fr h₀ L h' m → News h₀ L h' (((y, { cls := .type "tuple", data := .seq [.str (Str.ofString "T") c1, .str (Txt.slice c.S (some (b : Int)) (some (e : Int))) c2].toArray }) :: ((wy, instObj 449 dw) :: (dw, wayO w c wq ((pc + 1)) p1 ((e : Int)) at0 (.none)) :: (c.ho, instObj 589 c.dh) :: (c.dh, hostO w c (n) tn) :: (c.vd, vo2) :: (c.rl, listOf ([] : List Value).toArray c.rn) :: (c.lg, listOf (itA.push (.ref y)) (ln + 1)) :: (mt, instObj 526 dm) :: (dm, matchO w c hy r) :: (c.o2, setO c.k4 c.xT) :: (c.xT, instObj 208 c.dT) :: (c.dT, refTO w c) :: [])) ++ own) → Apart y ((c.o2, setO c.k4 c.xT) :: (wy, instObj 449 dw) :: (dw, wayO w c wq (pc) p0 ((e : Int)) at0 (.ref t)) :: (t, { cls := .type "tuple", data := .seq [.none, .int (b : Int) b0].toArray }) :: (c.ho, instObj 589 c.dh) :: (c.dh, hostO w c (n) tn) :: (c.vd, vo) :: (c.rl, listOf ([] : List Value).toArray c.rn) :: (c.lg, listOf itA ln) :: (mt, instObj 526 dm) :: (dm, matchO w c hy r) :: (c.xT, instObj 208 c.dT) :: (c.dT, refTO w c) :: []) → Apart y own → vo2.IsDictOf (PySem.strKind PySem.Challenge.rw_xm0959_01.row.prog w) kvs2 → kvs2.length ≤ kvs.length + 1 → Q (.bool true) { s with heap := h', toks := tk' }),
    wpAny (model PySem.Challenge.rw_xm0959_01.row.prog w) (((((callerA.deeper e1).deeper e2).deeper e3).deeper e4).deeper (envX cn cs L a ccd cl)) (call (.ref 488) [.ref mt, .ref c.o2, .ref wy]) Q E s := by
  k_fill
  intro w mean mg mb e1 e2 e3 e4 cn cs a ccd cl base h₀ L m news own s Q E c mt wy dw wq p0 at0 dm hy r vo kvs itA ln n tn t b0 pc b e hC hd1 hd2 hd3 hvo hkv hits hS hb he hret
  obtain ⟨B, F, X, N, hl, hw, off, T, hk⟩ := hC
  refine wpAny_call ?_
  k_dflt (refine' codeO (fun v news' => ∃ y c1 c2 p1 vo2 kvs2, v = .bool true ∧ news' = (y, { cls := .type "tuple", data := .seq [.str (Str.ofString "T") c1, .str (Txt.slice c.S (some (b : Int)) (some (e : Int))) c2].toArray }) :: ((wy, instObj 449 dw) :: (dw, wayO w c wq ((pc + 1)) p1 ((e : Int)) at0 (.none)) :: (c.ho, instObj 589 c.dh) :: (c.dh, hostO w c (n) tn) :: (c.vd, vo2) :: (c.rl, listOf ([] : List Value).toArray c.rn) :: (c.lg, listOf (itA.push (.ref y)) (ln + 1)) :: (mt, instObj 526 dm) :: (dm, matchO w c hy r) :: (c.o2, setO c.k4 c.xT) :: (c.xT, instObj 208 c.dT) :: (c.dT, refTO w c) :: []) ∧ Apart y ((c.o2, setO c.k4 c.xT) :: (wy, instObj 449 dw) :: (dw, wayO w c wq (pc) p0 ((e : Int)) at0 (.ref t)) :: (t, { cls := .type "tuple", data := .seq [.none, .int (b : Int) b0].toArray }) :: (c.ho, instObj 589 c.dh) :: (c.dh, hostO w c (n) tn) :: (c.vd, vo) :: (c.rl, listOf ([] : List Value).toArray c.rn) :: (c.lg, listOf itA ln) :: (mt, instObj 526 dm) :: (dm, matchO w c hy r) :: (c.xT, instObj 208 c.dT) :: (c.dT, refTO w c) :: []) ∧ vo2.IsDictOf (PySem.strKind PySem.Challenge.rw_xm0959_01.row.prog w) kvs2 ∧ kvs2.length ≤ kvs.length + 1) ?k1 ?k2 ?k3 ?k4 ?k5 ?kA ?kF ?kK ?k6 ?k7 ?k8 ?k9 ?kB hl hw (fun p hp q hq e => off p hp q hq e.symm) ?_ ?kR ?c2 ?c3 ?c4 ?c5; walk_at "o_rest")
  case kR => (intro v news' h' tk' F' N' off' hsp; obtain ⟨y, c1, c2, p1, vo2, kvs2, rfl, rfl, a0, f0, f1⟩ := hsp; exact hret y c1 c2 p1 vo2 kvs2 h' tk' F' N' a0 (apart_own off' List.mem_cons_self) f0 f1)
  intro g' L' h' R' hR' FG' F' N' B' X' T' l1
  clear hl hw off hret N F FG' B T X
  k_lt l1
  walk_at "fn"
  (try dsimp only); (try k_fold)
  refine foldA ?_
  intro A9
  (try dsimp only [nodeLed, ordLed, List.cons_append, List.nil_append] at hd1); (first | (refine facts_of (l := _ :: _) hd1 ?_; clear hd1; k_dflt (repeat ((with_reducible show Facts _ (_ :: _) _); intro hq9)); first | ((with_reducible show Facts _ [] _); refine facts_any ?_) | (refine facts_tail ?_; intro hd1)) | (refine dfacts_of (l := _ :: _) hd1 ?_; clear hd1; k_dflt (repeat (first | ((with_reducible show Facts _ (_ :: _) _); intro hq9) | ((with_reducible show Facts _ [] (DFacts (_ :: _ :: _) _)); intro hq9) | ((with_reducible show DFacts (_ :: _ :: _) _); intro hq9))); refine dfacts_last ?_) | skip)
  (try dsimp only [nodeLed, ordLed, List.cons_append, List.nil_append] at hd2); (first | (refine facts_of (l := _ :: _) hd2 ?_; clear hd2; k_dflt (repeat ((with_reducible show Facts _ (_ :: _) _); intro hq9)); first | ((with_reducible show Facts _ [] _); refine facts_any ?_) | (refine facts_tail ?_; intro hd2)) | (refine dfacts_of (l := _ :: _) hd2 ?_; clear hd2; k_dflt (repeat (first | ((with_reducible show Facts _ (_ :: _) _); intro hq9) | ((with_reducible show Facts _ [] (DFacts (_ :: _ :: _) _)); intro hq9) | ((with_reducible show DFacts (_ :: _ :: _) _); intro hq9))); refine dfacts_last ?_) | skip)
  (try dsimp only [nodeLed, ordLed, List.cons_append, List.nil_append] at hd3); (first | (refine facts_of (l := _ :: _) hd3 ?_; clear hd3; k_dflt (repeat ((with_reducible show Facts _ (_ :: _) _); intro hq9)); first | ((with_reducible show Facts _ [] _); refine facts_any ?_) | (refine facts_tail ?_; intro hd3)) | (refine dfacts_of (l := _ :: _) hd3 ?_; clear hd3; k_dflt (repeat (first | ((with_reducible show Facts _ (_ :: _) _); intro hq9) | ((with_reducible show Facts _ [] (DFacts (_ :: _ :: _) _)); intro hq9) | ((with_reducible show DFacts (_ :: _ :: _) _); intro hq9))); refine dfacts_last ?_) | skip)
  k_steps
  refine hR' _ _ ?_
  (try dsimp only)
  refine' LeaveO.intro (news'' := (_, { cls := .type "tuple", data := .seq [.str (Str.ofString "T") _, .str (Txt.slice c.S (some (b : Int)) (some (e : Int))) _].toArray }) :: ((wy, instObj 449 dw) :: (dw, wayO w c wq ((pc + 1)) _ ((e : Int)) at0 (.none)) :: (c.ho, instObj 589 c.dh) :: (c.dh, hostO w c (n) tn) :: (c.vd, _) :: (c.rl, listOf ([] : List Value).toArray c.rn) :: (c.lg, listOf (itA.push (.ref _)) (ln + 1)) :: (mt, instObj 526 dm) :: (dm, matchO w c hy r) :: (c.o2, setO c.k4 c.xT) :: (c.xT, instObj 208 c.dT) :: (c.dT, refTO w c) :: [])) (by k_asm) (by k_asm) ?sub ⟨_, _, _, _, _, _, rfl, rfl, ?lt0, ?ft0, ?ft1⟩
  case sub => walk_at "all_in"
  case lt0 => walk_at "apart"
  case ft0 => k_asm
  case ft1 => exact stored_le _ _ _
end
section
open PySem.Calls PySem.Spec
theorem dplace_tells : ∀ {w : World} {mean : ExcName → Option Value} {mg mb : Str → Option Value} {e1 e2 e3 e4 : Env} {cn : Str} {cs : Scope} {a : Addr} {ccd : Value} {cl : List (Str × Addr)} {base h₀ : Heap} {L : Addr} {m : Str → Option Value} {news own : List (Addr × Obj)} {s : Shared} {Q E : Value → Shared → Prop}
    {c : MC} {mt wy dw : Addr} {wq : WT} {p0 at0 : Tok} {dm hy : Addr} {r : MMT} {vo : Obj} {kvs : List (Str × Value)} {itA : Array Value} {ln : Nat} {n : Int} {tn : Tok} {pc : Int} {e : Nat}
    (hC : Cx (K9 w.params) V9 (looseW V9 [Str.ofString "SnobolError", Str.ofString "plain_count"]) mean mg mb cs ((((callerA.deeper e1).deeper e2).deeper e3).deeper e4) base [e4, e3, e2, e1] h₀ L s.heap m news ((c.o3, placeO c.k5 c.xJ) :: (wy, instObj 449 dw) :: (dw, wayO w c wq (pc) p0 ((e : Int)) at0 (.none)) :: (c.ho, instObj 589 c.dh) :: (c.dh, hostO w c (n) tn) :: (c.vd, vo) :: (c.rl, listOf ([] : List Value).toArray c.rn) :: (c.lg, listOf itA ln) :: (mt, instObj 526 dm) :: (dm, matchO w c hy r) :: (c.xJ, instObj 208 c.dJ) :: (c.dJ, refJO w c) :: []) own) (hd1 : Apart dw ((wy, instObj 449 dw) :: (c.ho, instObj 589 c.dh) :: (c.dh, hostO w c n tn) :: (c.rl, listOf ([] : List Value).toArray c.rn) :: (mt, instObj 526 dm) :: (dm, matchO w c hy r) :: (c.o3, placeO c.k5 c.xJ) :: (c.xJ, instObj 208 c.dJ) :: (c.dJ, refJO w c) :: (c.vd, vo) :: (c.lg, listOf itA ln) :: [])) (hd2 : Apart c.vd ((wy, instObj 449 dw) :: (c.ho, instObj 589 c.dh) :: (c.dh, hostO w c n tn) :: (c.rl, listOf ([] : List Value).toArray c.rn) :: (mt, instObj 526 dm) :: (dm, matchO w c hy r) :: (c.o3, placeO c.k5 c.xJ) :: (c.xJ, instObj 208 c.dJ) :: (c.dJ, refJO w c) :: (c.lg, listOf itA ln) :: [])) (hd3 : Apart c.lg ((wy, instObj 449 dw) :: (c.ho, instObj 589 c.dh) :: (c.dh, hostO w c n tn) :: (c.rl, listOf ([] : List Value).toArray c.rn) :: (mt, instObj 526 dm) :: (dm, matchO w c hy r) :: (c.o3, placeO c.k5 c.xJ) :: (c.xJ, instObj 208 c.dJ) :: (c.dJ, refJO w c) :: (c.vd, vo) :: [])) (hvo : vo.IsDictOf (PySem.strKind PySem.Challenge.rw_xm0959_01.row.prog w) kvs) (hkv : kvs.length ≤ 2000) (hits : itA.size ≤ 2000)
    (hret : ∀ y c1 c2 p1 vo2 kvs2 h' tk', Fr h₀ L h' m → News h₀ L h' (((y, { cls := .type "tuple", data := .seq [.str (Str.ofString "J") c1, .int (e : Int) c2].toArray }) :: ((wy, instObj 449 dw) :: (dw, wayO w c wq ((pc + 1)) p1 ((e : Int)) at0 (.none)) :: (c.ho, instObj 589 c.dh) :: (c.dh, hostO w c (n) tn) :: (c.vd, vo2) :: (c.rl, listOf ([] : List Value).toArray c.rn) :: (c.lg, listOf (itA.push (.ref y)) (ln + 1)) :: (mt, instObj 526 dm) :: (dm, matchO w c hy r) :: (c.o3, placeO c.k5 c.xJ) :: (c.xJ, instObj 208 c.dJ) :: (c.dJ, refJO w c) :: [])) ++ own) → Apart y ((c.o3, placeO c.k5 c.xJ) :: (wy, instObj 449 dw) :: (dw, wayO w c wq (pc) p0 ((e : Int)) at0 (.none)) :: (c.ho, instObj 589 c.dh) :: (c.dh, hostO w c (n) tn) :: (c.vd, vo) :: (c.rl, listOf ([] : List Value).toArray c.rn) :: (c.lg, listOf itA ln) :: (mt, instObj 526 dm) :: (dm, matchO w c hy r) :: (c.xJ, instObj 208 c.dJ) :: (c.dJ, refJO w c) :: []) → Apart y own → vo2.IsDictOf (PySem.strKind PySem.Challenge.rw_xm0959_01.row.prog w) kvs2 → kvs2.length ≤ kvs.length + 1 → Q (.bool true) { s with heap := h', toks := tk' }),
    wpAny (model PySem.Challenge.rw_xm0959_01.row.prog w) (((((callerA.deeper e1).deeper e2).deeper e3).deeper e4).deeper (envX cn cs L a ccd cl)) (call (.ref 488) [.ref mt, .ref c.o3, .ref wy]) Q E s := by
  k_fill
  intro w mean mg mb e1 e2 e3 e4 cn cs a ccd cl base h₀ L m news own s Q E c mt wy dw wq p0 at0 dm hy r vo kvs itA ln n tn pc e hC hd1 hd2 hd3 hvo hkv hits hret
  obtain ⟨B, F, X, N, hl, hw, off, T, hk⟩ := hC
  refine wpAny_call ?_
  k_dflt (refine' codeO (fun v news' => ∃ y c1 c2 p1 vo2 kvs2, v = .bool true ∧ news' = (y, { cls := .type "tuple", data := .seq [.str (Str.ofString "J") c1, .int (e : Int) c2].toArray }) :: ((wy, instObj 449 dw) :: (dw, wayO w c wq ((pc + 1)) p1 ((e : Int)) at0 (.none)) :: (c.ho, instObj 589 c.dh) :: (c.dh, hostO w c (n) tn) :: (c.vd, vo2) :: (c.rl, listOf ([] : List Value).toArray c.rn) :: (c.lg, listOf (itA.push (.ref y)) (ln + 1)) :: (mt, instObj 526 dm) :: (dm, matchO w c hy r) :: (c.o3, placeO c.k5 c.xJ) :: (c.xJ, instObj 208 c.dJ) :: (c.dJ, refJO w c) :: []) ∧ Apart y ((c.o3, placeO c.k5 c.xJ) :: (wy, instObj 449 dw) :: (dw, wayO w c wq (pc) p0 ((e : Int)) at0 (.none)) :: (c.ho, instObj 589 c.dh) :: (c.dh, hostO w c (n) tn) :: (c.vd, vo) :: (c.rl, listOf ([] : List Value).toArray c.rn) :: (c.lg, listOf itA ln) :: (mt, instObj 526 dm) :: (dm, matchO w c hy r) :: (c.xJ, instObj 208 c.dJ) :: (c.dJ, refJO w c) :: []) ∧ vo2.IsDictOf (PySem.strKind PySem.Challenge.rw_xm0959_01.row.prog w) kvs2 ∧ kvs2.length ≤ kvs.length + 1) ?k1 ?k2 ?k3 ?k4 ?k5 ?kA ?kF ?kK ?k6 ?k7 ?k8 ?k9 ?kB hl hw (fun p hp q hq e => off p hp q hq e.symm) ?_ ?kR ?c2 ?c3 ?c4 ?c5; walk_at "o_rest")
  case kR => (intro v news' h' tk' F' N' off' hsp; obtain ⟨y, c1, c2, p1, vo2, kvs2, rfl, rfl, a0, f0, f1⟩ := hsp; exact hret y c1 c2 p1 vo2 kvs2 h' tk' F' N' a0 (apart_own off' List.mem_cons_self) f0 f1)
  intro g' L' h' R' hR' FG' F' N' B' X' T' l1
  clear hl hw off hret N F FG' B T X
  k_lt l1
  walk_at "fn"
  (try dsimp only); (try k_fold)
  refine foldA ?_
  intro A9
  (try dsimp only [nodeLed, ordLed, List.cons_append, List.nil_append] at hd1); (first | (refine facts_of (l := _ :: _) hd1 ?_; clear hd1; k_dflt (repeat ((with_reducible show Facts _ (_ :: _) _); intro hq9)); first | ((with_reducible show Facts _ [] _); refine facts_any ?_) | (refine facts_tail ?_; intro hd1)) | (refine dfacts_of (l := _ :: _) hd1 ?_; clear hd1; k_dflt (repeat (first | ((with_reducible show Facts _ (_ :: _) _); intro hq9) | ((with_reducible show Facts _ [] (DFacts (_ :: _ :: _) _)); intro hq9) | ((with_reducible show DFacts (_ :: _ :: _) _); intro hq9))); refine dfacts_last ?_) | skip)
  (try dsimp only [nodeLed, ordLed, List.cons_append, List.nil_append] at hd2); (first | (refine facts_of (l := _ :: _) hd2 ?_; clear hd2; k_dflt (repeat ((with_reducible show Facts _ (_ :: _) _); intro hq9)); first | ((with_reducible show Facts _ [] _); refine facts_any ?_) | (refine facts_tail ?_; intro hd2)) | (refine dfacts_of (l := _ :: _) hd2 ?_; clear hd2; k_dflt (repeat (first | ((with_reducible show Facts _ (_ :: _) _); intro hq9) | ((with_reducible show Facts _ [] (DFacts (_ :: _ :: _) _)); intro hq9) | ((with_reducible show DFacts (_ :: _ :: _) _); intro hq9))); refine dfacts_last ?_) | skip)
  (try dsimp only [nodeLed, ordLed, List.cons_append, List.nil_append] at hd3); (first | (refine facts_of (l := _ :: _) hd3 ?_; clear hd3; k_dflt (repeat ((with_reducible show Facts _ (_ :: _) _); intro hq9)); first | ((with_reducible show Facts _ [] _); refine facts_any ?_) | (refine facts_tail ?_; intro hd3)) | (refine dfacts_of (l := _ :: _) hd3 ?_; clear hd3; k_dflt (repeat (first | ((with_reducible show Facts _ (_ :: _) _); intro hq9) | ((with_reducible show Facts _ [] (DFacts (_ :: _ :: _) _)); intro hq9) | ((with_reducible show DFacts (_ :: _ :: _) _); intro hq9))); refine dfacts_last ?_) | skip)
  k_steps
  refine hR' _ _ ?_
  (try dsimp only)
  refine' LeaveO.intro (news'' := (_, { cls := .type "tuple", data := .seq [.str (Str.ofString "J") _, .int (e : Int) _].toArray }) :: ((wy, instObj 449 dw) :: (dw, wayO w c wq ((pc + 1)) _ ((e : Int)) at0 (.none)) :: (c.ho, instObj 589 c.dh) :: (c.dh, hostO w c (n) tn) :: (c.vd, _) :: (c.rl, listOf ([] : List Value).toArray c.rn) :: (c.lg, listOf (itA.push (.ref _)) (ln + 1)) :: (mt, instObj 526 dm) :: (dm, matchO w c hy r) :: (c.o3, placeO c.k5 c.xJ) :: (c.xJ, instObj 208 c.dJ) :: (c.dJ, refJO w c) :: [])) (by k_asm) (by k_asm) ?sub ⟨_, _, _, _, _, _, rfl, rfl, ?lt0, ?ft0, ?ft1⟩
  case sub => walk_at "all_in"
  case lt0 => walk_at "apart"
  case ft0 => k_asm
  case ft1 => exact stored_le _ _ _
end
end
section
local macro_rules | `(tactic| walk_at "call ref") => `(tactic| ktd_call 369 (rend_tells ?k ?x0 ?x1 ?_))
section
open PySem.Calls PySem.Spec
theorem done0_tells : ∀ {w : World} {mean : ExcName → Option Value} {mg mb : Str → Option Value} {e1 e2 e3 e4 : Env} {cn : Str} {cs : Scope} {a : Addr} {ccd : Value} {cl : List (Str × Addr)} {base h₀ : Heap} {L : Addr} {m : Str → Option Value} {news own : List (Addr × Obj)} {s : Shared} {Q E : Value → Shared → Prop}
    {c : MC} {mt wy dw : Addr} {wq : WT} {p0 at0 : Tok} {dm hy : Addr} {r : MMT} {pc : Int} {b : Nat} {mk : Value}
    (hC : Cx (K9 w.params) V9 (looseW V9 [Str.ofString "SnobolError", Str.ofString "plain_count"]) mean mg mb cs ((((callerA.deeper e1).deeper e2).deeper e3).deeper e4) base [e4, e3, e2, e1] h₀ L s.heap m news ((c.o1, oneO c.k1 c.k2 c.k3) :: (wy, instObj 449 dw) :: (dw, wayO w c wq (pc) p0 ((b : Int)) at0 (mk)) :: (mt, instObj 526 dm) :: (dm, matchO w c hy r) :: []) own) (hS : c.S.length ≤ 1000) (hb : b ≤ c.S.length) (hno : strokes c.S b = 0)
    (hret : ∀ h' tk', Fr h₀ L h' m → News h₀ L h' ((((wy, instObj 449 dw) :: (dw, wayO w c wq (pc) p0 ((b : Int)) at0 (mk)) :: (mt, instObj 526 dm) :: (dm, matchO w c hy r) :: (c.o1, oneO c.k1 c.k2 c.k3) :: [])) ++ own) → Q (.bool false) { s with heap := h', toks := tk' }),
    wpAny (model PySem.Challenge.rw_xm0959_01.row.prog w) (((((callerA.deeper e1).deeper e2).deeper e3).deeper e4).deeper (envX cn cs L a ccd cl)) (call (.ref 488) [.ref mt, .ref c.o1, .ref wy]) Q E s := by
  k_fill
  intro w mean mg mb e1 e2 e3 e4 cn cs a ccd cl base h₀ L m news own s Q E c mt wy dw wq p0 at0 dm hy r pc b mk hC hS hb hno hret
  obtain ⟨B, F, X, N, hl, hw, off, T, hk⟩ := hC
  refine wpAny_call ?_
  k_dflt (refine' codeO (fun v news' => v = .bool false ∧ news' = ((wy, instObj 449 dw) :: (dw, wayO w c wq (pc) p0 ((b : Int)) at0 (mk)) :: (mt, instObj 526 dm) :: (dm, matchO w c hy r) :: (c.o1, oneO c.k1 c.k2 c.k3) :: [])) ?k1 ?k2 ?k3 ?k4 ?k5 ?kA ?kF ?kK ?k6 ?k7 ?k8 ?k9 ?kB hl hw (fun p hp q hq e => off p hp q hq e.symm) ?_ ?kR ?c2 ?c3 ?c4 ?c5; walk_at "o_rest")
  case kR => (intro v news' h' tk' F' N' off' hsp; obtain ⟨rfl, rfl⟩ := hsp; exact hret  h' tk' F' N'   )
  intro g' L' h' R' hR' FG' F' N' B' X' T' l1
  clear hl hw off hret N F FG' B T X
  k_lt l1
  walk_at "fn"
  (try dsimp only); (try k_fold)
  refine foldA ?_
  intro A9
  k_steps
  refine hR' _ _ ?_
  (try dsimp only)
  refine' LeaveO.intro (news'' := ((wy, instObj 449 dw) :: (dw, wayO w c wq (pc) p0 ((b : Int)) at0 (mk)) :: (mt, instObj 526 dm) :: (dm, matchO w c hy r) :: (c.o1, oneO c.k1 c.k2 c.k3) :: [])) (by k_asm) (by k_asm) ?sub ⟨rfl, rfl⟩
  case sub => walk_at "all_in"
end
section
open PySem.Calls PySem.Spec
theorem done1_tells : ∀ {w : World} {mean : ExcName → Option Value} {mg mb : Str → Option Value} {e1 e2 e3 e4 : Env} {cn : Str} {cs : Scope} {a : Addr} {ccd : Value} {cl : List (Str × Addr)} {base h₀ : Heap} {L : Addr} {m : Str → Option Value} {news own : List (Addr × Obj)} {s : Shared} {Q E : Value → Shared → Prop}
    {c : MC} {mt wy dw : Addr} {wq : WT} {p0 at0 : Tok} {dm hy : Addr} {r : MMT} {pc : Int} {b : Nat} {mk : Value}
    (hC : Cx (K9 w.params) V9 (looseW V9 [Str.ofString "SnobolError", Str.ofString "plain_count"]) mean mg mb cs ((((callerA.deeper e1).deeper e2).deeper e3).deeper e4) base [e4, e3, e2, e1] h₀ L s.heap m news ((c.o1, oneO c.k1 c.k2 c.k3) :: (wy, instObj 449 dw) :: (dw, wayO w c wq (pc) p0 ((b : Int)) at0 (mk)) :: (mt, instObj 526 dm) :: (dm, matchO w c hy r) :: []) own) (hS : c.S.length ≤ 1000) (hb : b ≤ c.S.length) (hyes : 0 < strokes c.S b) (hd1 : Apart dw ((wy, instObj 449 dw) :: (mt, instObj 526 dm) :: (dm, matchO w c hy r) :: (c.o1, oneO c.k1 c.k2 c.k3) :: []))
    (hret : ∀ p1 at1 h' tk', Fr h₀ L h' m → News h₀ L h' ((((wy, instObj 449 dw) :: (dw, wayO w c wq ((pc + 1)) p1 (((b + strokes c.S b : Nat) : Int)) at1 (mk)) :: (mt, instObj 526 dm) :: (dm, matchO w c hy r) :: (c.o1, oneO c.k1 c.k2 c.k3) :: [])) ++ own) → Q (.bool true) { s with heap := h', toks := tk' }),
    wpAny (model PySem.Challenge.rw_xm0959_01.row.prog w) (((((callerA.deeper e1).deeper e2).deeper e3).deeper e4).deeper (envX cn cs L a ccd cl)) (call (.ref 488) [.ref mt, .ref c.o1, .ref wy]) Q E s := by
  k_fill
  intro w mean mg mb e1 e2 e3 e4 cn cs a ccd cl base h₀ L m news own s Q E c mt wy dw wq p0 at0 dm hy r pc b mk hC hS hb hyes hd1 hret
  obtain ⟨B, F, X, N, hl, hw, off, T, hk⟩ := hC
  refine wpAny_call ?_
  k_dflt (refine' codeO (fun v news' => ∃ p1 at1, v = .bool true ∧ news' = ((wy, instObj 449 dw) :: (dw, wayO w c wq ((pc + 1)) p1 (((b + strokes c.S b : Nat) : Int)) at1 (mk)) :: (mt, instObj 526 dm) :: (dm, matchO w c hy r) :: (c.o1, oneO c.k1 c.k2 c.k3) :: [])) ?k1 ?k2 ?k3 ?k4 ?k5 ?kA ?kF ?kK ?k6 ?k7 ?k8 ?k9 ?kB hl hw (fun p hp q hq e => off p hp q hq e.symm) ?_ ?kR ?c2 ?c3 ?c4 ?c5; walk_at "o_rest")
  case kR => (intro v news' h' tk' F' N' off' hsp; obtain ⟨p1, at1, rfl, rfl⟩ := hsp; exact hret p1 at1 h' tk' F' N'   )
  intro g' L' h' R' hR' FG' F' N' B' X' T' l1
  clear hl hw off hret N F FG' B T X
  k_lt l1
  walk_at "fn"
  (try dsimp only); (try k_fold)
  refine foldA ?_
  intro A9
  (try dsimp only [nodeLed, ordLed, List.cons_append, List.nil_append] at hd1); (first | (refine facts_of (l := _ :: _) hd1 ?_; clear hd1; k_dflt (repeat ((with_reducible show Facts _ (_ :: _) _); intro hq9)); first | ((with_reducible show Facts _ [] _); refine facts_any ?_) | (refine facts_tail ?_; intro hd1)) | (refine dfacts_of (l := _ :: _) hd1 ?_; clear hd1; k_dflt (repeat (first | ((with_reducible show Facts _ (_ :: _) _); intro hq9) | ((with_reducible show Facts _ [] (DFacts (_ :: _ :: _) _)); intro hq9) | ((with_reducible show DFacts (_ :: _ :: _) _); intro hq9))); refine dfacts_last ?_) | skip)
  k_steps
  refine hR' _ _ ?_
  (try dsimp only)
  refine' LeaveO.intro (news'' := ((wy, instObj 449 dw) :: (dw, wayO w c wq ((pc + 1)) _ (((b + strokes c.S b : Nat) : Int)) _ (mk)) :: (mt, instObj 526 dm) :: (dm, matchO w c hy r) :: (c.o1, oneO c.k1 c.k2 c.k3) :: [])) (by k_asm) (by k_asm) ?sub ⟨_, _, rfl, rfl⟩
  case sub => walk_at "all_in"
end
end
section
local macro_rules | `(tactic| walk_at "call ref") => `(tactic| ktd_call 586 (step_tells ?k ?x0 ?x1 ?x2 ?_))
local macro_rules | `(tactic| walk_at "call ref") => `(tactic| ktd_call 488 (dfail_tells ?k ?_))
local macro_rules | `(tactic| walk_at "call ref") => `(tactic| ktd_call 488 (dplace_tells ?k ?x0 ?x1 ?x2 ?x3 ?x4 ?x5 ?_))
local macro_rules | `(tactic| walk_at "call ref") => `(tactic| ktd_call 488 (dset_tells ?k ?x0 ?x1 ?x2 ?x3 ?x4 ?x5 ?x6 ?x7 ?x8 ?_))
local macro_rules | `(tactic| walk_at "call ref") => `(tactic| ktd_call 488 (dmark_tells ?k ?x0 ?_))
section
open PySem.Calls PySem.Spec
local macro_rules | `(tactic| walk_at "call ref") => `(tactic| ktd_call 488 (done0_tells ?k ?x0 ?x1 ?x2 ?_))
theorem run0_tells : ∀ {w : World} {mean : ExcName → Option Value} {mg mb : Str → Option Value} {e1 e2 e3 : Env} {cn : Str} {cs : Scope} {a : Addr} {ccd : Value} {cl : List (Str × Addr)} {base h₀ : Heap} {L : Addr} {m : Str → Option Value} {news own : List (Addr × Obj)} {s : Shared} {Q E : Value → Shared → Prop}
    {c : MC} {mt dm hy : Addr} {hn : Nat} {r : MMT} {n : Int} {tn : Tok} {b : Nat} {tb : Tok}
    (hC : Cx (K9 w.params) V9 (looseW V9 [Str.ofString "SnobolError", Str.ofString "plain_count"]) mean mg mb cs (((callerA.deeper e1).deeper e2).deeper e3) base [e3, e2, e1] h₀ L s.heap m news ((mt, instObj 526 dm) :: (dm, matchO w c hy r) :: (hy, listOf ([] : List Value).toArray hn) :: (c.ho, instObj 589 c.dh) :: (c.dh, hostO w c (n) tn) :: (c.ol, ordsO c) :: (c.o0, markO c.k0) :: (c.o1, oneO c.k1 c.k2 c.k3) :: (c.o2, setO c.k4 c.xT) :: (c.o3, placeO c.k5 c.xJ) :: (c.o4, failO c.k6) :: (c.o5, doneO c.k7) :: []) own) (hd1 : Dist ((mt, instObj 526 dm) :: (dm, matchO w c hy r) :: (hy, listOf ([] : List Value).toArray hn) :: (c.ho, instObj 589 c.dh) :: (c.dh, hostO w c (n) tn) :: (c.ol, ordsO c) :: (c.o0, markO c.k0) :: (c.o1, oneO c.k1 c.k2 c.k3) :: (c.o2, setO c.k4 c.xT) :: (c.o3, placeO c.k5 c.xJ) :: (c.o4, failO c.k6) :: (c.o5, doneO c.k7) :: [])) (hS : c.S.length ≤ 1000) (hb : b ≤ c.S.length) (hno : strokes c.S b = 0) (hn0 : 0 ≤ n) (hn1 : n ≤ 9000)
    (hret : ∀ t c1 tn2 h' tk', Fr h₀ L h' m → News h₀ L h' (((t, { cls := .type "tuple", data := .seq [.int 1 c1, .none].toArray }) :: ((c.ho, instObj 589 c.dh) :: (c.dh, hostO w c (n + 1 + 1) tn2) :: (c.ol, ordsO c) :: (c.o0, markO c.k0) :: (c.o1, oneO c.k1 c.k2 c.k3) :: (c.o2, setO c.k4 c.xT) :: (c.o3, placeO c.k5 c.xJ) :: (c.o4, failO c.k6) :: (c.o5, doneO c.k7) :: [])) ++ own) → Apart t ((c.ho, instObj 589 c.dh) :: (c.dh, hostO w c (n) tn) :: (c.ol, ordsO c) :: (c.o0, markO c.k0) :: (c.o1, oneO c.k1 c.k2 c.k3) :: (c.o2, setO c.k4 c.xT) :: (c.o3, placeO c.k5 c.xJ) :: (c.o4, failO c.k6) :: (c.o5, doneO c.k7) :: []) → Apart t own → Q (.ref t) { s with heap := h', toks := tk' }),
    wpAny (model PySem.Challenge.rw_xm0959_01.row.prog w) ((((callerA.deeper e1).deeper e2).deeper e3).deeper (envX cn cs L a ccd cl)) (call (.ref 474) [.ref mt, .ref c.ol, .int (b : Int) tb]) Q E s := by
  k_fill
  intro w mean mg mb e1 e2 e3 cn cs a ccd cl base h₀ L m news own s Q E c mt dm hy hn r n tn b tb hC hd1 hS hb hno hn0 hn1 hret
  obtain ⟨B, F, X, N, hl, hw, off, T, hk⟩ := hC
  refine wpAny_call ?_
  k_dflt (refine' codeO (fun v news' => ∃ t c1 tn2, v = .ref t ∧ news' = (t, { cls := .type "tuple", data := .seq [.int 1 c1, .none].toArray }) :: ((c.ho, instObj 589 c.dh) :: (c.dh, hostO w c (n + 1 + 1) tn2) :: (c.ol, ordsO c) :: (c.o0, markO c.k0) :: (c.o1, oneO c.k1 c.k2 c.k3) :: (c.o2, setO c.k4 c.xT) :: (c.o3, placeO c.k5 c.xJ) :: (c.o4, failO c.k6) :: (c.o5, doneO c.k7) :: []) ∧ Apart t ((c.ho, instObj 589 c.dh) :: (c.dh, hostO w c (n) tn) :: (c.ol, ordsO c) :: (c.o0, markO c.k0) :: (c.o1, oneO c.k1 c.k2 c.k3) :: (c.o2, setO c.k4 c.xT) :: (c.o3, placeO c.k5 c.xJ) :: (c.o4, failO c.k6) :: (c.o5, doneO c.k7) :: [])) ?k1 ?k2 ?k3 ?k4 ?k5 ?kA ?kF ?kK ?k6 ?k7 ?k8 ?k9 ?kB hl hw (fun p hp q hq e => off p hp q hq e.symm) ?_ ?kR ?c2 ?c3 ?c4 ?c5; walk_at "o_rest")
  case kR => (intro v news' h' tk' F' N' off' hsp; obtain ⟨t, c1, tn2, rfl, rfl, a0⟩ := hsp; exact hret t c1 tn2 h' tk' F' N' a0 (apart_own off' List.mem_cons_self) )
  intro g' L' h' R' hR' FG' F' N' B' X' T' l1
  clear hl hw off hret N F FG' B T X
  k_lt l1
  walk_at "fn"
  (try dsimp only); (try k_fold)
  refine foldA ?_
  intro A9
  (try dsimp only [nodeLed, ordLed, List.cons_append, List.nil_append] at hd1); (first | (refine facts_of (l := _ :: _) hd1 ?_; clear hd1; k_dflt (repeat ((with_reducible show Facts _ (_ :: _) _); intro hq9)); first | ((with_reducible show Facts _ [] _); refine facts_any ?_) | (refine facts_tail ?_; intro hd1)) | (refine dfacts_of (l := _ :: _) hd1 ?_; clear hd1; k_dflt (repeat (first | ((with_reducible show Facts _ (_ :: _) _); intro hq9) | ((with_reducible show Facts _ [] (DFacts (_ :: _ :: _) _)); intro hq9) | ((with_reducible show DFacts (_ :: _ :: _) _); intro hq9))); refine dfacts_last ?_) | skip)
  k_steps
  refine hR' _ _ ?_
  (try dsimp only)
  refine' LeaveO.intro (news'' := (_, { cls := .type "tuple", data := .seq [.int 1 _, .none].toArray }) :: ((c.ho, instObj 589 c.dh) :: (c.dh, hostO w c (n + 1 + 1) _) :: (c.ol, ordsO c) :: (c.o0, markO c.k0) :: (c.o1, oneO c.k1 c.k2 c.k3) :: (c.o2, setO c.k4 c.xT) :: (c.o3, placeO c.k5 c.xJ) :: (c.o4, failO c.k6) :: (c.o5, doneO c.k7) :: [])) (by k_asm) (by k_asm) ?sub ⟨_, _, _, rfl, rfl, ?lt0⟩
  case sub => walk_at "all_in"
  case lt0 => walk_at "apart"
end
section
local macro_rules | `(tactic| walk_at "zz") => `(tactic| skip)
open PySem.Calls PySem.Spec
local macro_rules | `(tactic| walk_at "call ref") => `(tactic| ktd_call 488 (done1_tells ?k ?x0 ?x1 ?x2 ?x3 ?_))
theorem run1_tells : ∀ {w : World} {mean : ExcName → Option Value} {mg mb : Str → Option Value} {e1 e2 e3 : Env} {cn : Str} {cs : Scope} {a : Addr} {ccd : Value} {cl : List (Str × Addr)} {base h₀ : Heap} {L : Addr} {m : Str → Option Value} {news own : List (Addr × Obj)} {s : Shared} {Q E : Value → Shared → Prop}
    {c : MC} {mt dm hy : Addr} {hn : Nat} {r : MMT} {vo : Obj} {kvs : List (Str × Value)} {itA : Array Value} {ln : Nat} {n : Int} {tn : Tok} {b : Nat} {tb : Tok}
    (hC : Cx (K9 w.params) V9 (looseW V9 [Str.ofString "SnobolError", Str.ofString "plain_count"]) mean mg mb cs (((callerA.deeper e1).deeper e2).deeper e3) base [e3, e2, e1] h₀ L s.heap m news ((mt, instObj 526 dm) :: (dm, matchO w c hy r) :: (hy, listOf ([] : List Value).toArray hn) :: (c.ho, instObj 589 c.dh) :: (c.dh, hostO w c (n) tn) :: (c.vd, vo) :: (c.rl, listOf ([] : List Value).toArray c.rn) :: (c.lg, listOf itA ln) :: (c.ol, ordsO c) :: (c.o0, markO c.k0) :: (c.o1, oneO c.k1 c.k2 c.k3) :: (c.o2, setO c.k4 c.xT) :: (c.o3, placeO c.k5 c.xJ) :: (c.o4, failO c.k6) :: (c.o5, doneO c.k7) :: (c.xT, instObj 208 c.dT) :: (c.dT, refTO w c) :: (c.xJ, instObj 208 c.dJ) :: (c.dJ, refJO w c) :: []) own) (hd1 : Dist ((mt, instObj 526 dm) :: (dm, matchO w c hy r) :: (hy, listOf ([] : List Value).toArray hn) :: (c.ho, instObj 589 c.dh) :: (c.dh, hostO w c (n) tn) :: (c.vd, vo) :: (c.rl, listOf ([] : List Value).toArray c.rn) :: (c.lg, listOf itA ln) :: (c.ol, ordsO c) :: (c.o0, markO c.k0) :: (c.o1, oneO c.k1 c.k2 c.k3) :: (c.o2, setO c.k4 c.xT) :: (c.o3, placeO c.k5 c.xJ) :: (c.o4, failO c.k6) :: (c.o5, doneO c.k7) :: (c.xT, instObj 208 c.dT) :: (c.dT, refTO w c) :: (c.xJ, instObj 208 c.dJ) :: (c.dJ, refJO w c) :: [])) (hS : c.S.length ≤ 1000) (hb : b ≤ c.S.length) (hyes : 0 < strokes c.S b) (hn0 : 0 ≤ n) (hn1 : n ≤ 9000) (hvo : vo.IsDictOf (PySem.strKind PySem.Challenge.rw_xm0959_01.row.prog w) kvs) (hkv : kvs.length ≤ 1000) (hits : itA.size ≤ 1000)
    (hret : ∀ t y1 y2 c1 c2 c3 c4 c5 tn2 vo2 kvs2 h' tk', Fr h₀ L h' m → News h₀ L h' (((t, { cls := .type "tuple", data := .seq [.int 1 c1, .none].toArray }) :: (y1, { cls := .type "tuple", data := .seq [.str (Str.ofString "T") c2, .str (Txt.slice c.S (some (b : Int)) (some ((b + strokes c.S b : Nat) : Int))) c3].toArray }) :: (y2, { cls := .type "tuple", data := .seq [.str (Str.ofString "J") c4, .int ((b + strokes c.S b : Nat) : Int) c5].toArray }) :: ((c.ho, instObj 589 c.dh) :: (c.dh, hostO w c (n + 1 + 1 + 1 + 1 + 1) tn2) :: (c.vd, vo2) :: (c.rl, listOf ([] : List Value).toArray c.rn) :: (c.lg, listOf ((itA.push (.ref y1)).push (.ref y2)) (ln + 1 + 1)) :: (c.xT, instObj 208 c.dT) :: (c.dT, refTO w c) :: (c.xJ, instObj 208 c.dJ) :: (c.dJ, refJO w c) :: (c.ol, ordsO c) :: (c.o0, markO c.k0) :: (c.o1, oneO c.k1 c.k2 c.k3) :: (c.o2, setO c.k4 c.xT) :: (c.o3, placeO c.k5 c.xJ) :: (c.o4, failO c.k6) :: (c.o5, doneO c.k7) :: [])) ++ own) → Apart t ((c.ho, instObj 589 c.dh) :: (c.dh, hostO w c n tn) :: (c.vd, vo) :: (c.rl, listOf ([] : List Value).toArray c.rn) :: (c.lg, listOf itA ln) :: (c.xT, instObj 208 c.dT) :: (c.dT, refTO w c) :: (c.xJ, instObj 208 c.dJ) :: (c.dJ, refJO w c) :: (c.ol, ordsO c) :: (c.o0, markO c.k0) :: (c.o1, oneO c.k1 c.k2 c.k3) :: (c.o2, setO c.k4 c.xT) :: (c.o3, placeO c.k5 c.xJ) :: (c.o4, failO c.k6) :: (c.o5, doneO c.k7) :: []) → Apart y1 ((c.ho, instObj 589 c.dh) :: (c.dh, hostO w c n tn) :: (c.vd, vo) :: (c.rl, listOf ([] : List Value).toArray c.rn) :: (c.lg, listOf itA ln) :: (c.xT, instObj 208 c.dT) :: (c.dT, refTO w c) :: (c.xJ, instObj 208 c.dJ) :: (c.dJ, refJO w c) :: (c.ol, ordsO c) :: (c.o0, markO c.k0) :: (c.o1, oneO c.k1 c.k2 c.k3) :: (c.o2, setO c.k4 c.xT) :: (c.o3, placeO c.k5 c.xJ) :: (c.o4, failO c.k6) :: (c.o5, doneO c.k7) :: []) → Apart y2 ((c.ho, instObj 589 c.dh) :: (c.dh, hostO w c n tn) :: (c.vd, vo) :: (c.rl, listOf ([] : List Value).toArray c.rn) :: (c.lg, listOf itA ln) :: (c.xT, instObj 208 c.dT) :: (c.dT, refTO w c) :: (c.xJ, instObj 208 c.dJ) :: (c.dJ, refJO w c) :: (c.ol, ordsO c) :: (c.o0, markO c.k0) :: (c.o1, oneO c.k1 c.k2 c.k3) :: (c.o2, setO c.k4 c.xT) :: (c.o3, placeO c.k5 c.xJ) :: (c.o4, failO c.k6) :: (c.o5, doneO c.k7) :: []) → Apart t own → Apart y1 own → Apart y2 own → vo2.IsDictOf (PySem.strKind PySem.Challenge.rw_xm0959_01.row.prog w) kvs2 → kvs2.length ≤ kvs.length + 2 → Q (.ref t) { s with heap := h', toks := tk' }),
    wpAny (model PySem.Challenge.rw_xm0959_01.row.prog w) ((((callerA.deeper e1).deeper e2).deeper e3).deeper (envX cn cs L a ccd cl)) (call (.ref 474) [.ref mt, .ref c.ol, .int (b : Int) tb]) Q E s := by
  k_fill
  intro w mean mg mb e1 e2 e3 cn cs a ccd cl base h₀ L m news own s Q E c mt dm hy hn r vo kvs itA ln n tn b tb hC hd1 hS hb hyes hn0 hn1 hvo hkv hits hret
  obtain ⟨B, F, X, N, hl, hw, off, T, hk⟩ := hC
  refine wpAny_call ?_
  k_dflt (refine' codeO (fun v news' => ∃ t y1 y2 c1 c2 c3 c4 c5 tn2 vo2 kvs2, v = .ref t ∧ news' = (t, { cls := .type "tuple", data := .seq [.int 1 c1, .none].toArray }) :: (y1, { cls := .type "tuple", data := .seq [.str (Str.ofString "T") c2, .str (Txt.slice c.S (some (b : Int)) (some ((b + strokes c.S b : Nat) : Int))) c3].toArray }) :: (y2, { cls := .type "tuple", data := .seq [.str (Str.ofString "J") c4, .int ((b + strokes c.S b : Nat) : Int) c5].toArray }) :: ((c.ho, instObj 589 c.dh) :: (c.dh, hostO w c (n + 1 + 1 + 1 + 1 + 1) tn2) :: (c.vd, vo2) :: (c.rl, listOf ([] : List Value).toArray c.rn) :: (c.lg, listOf ((itA.push (.ref y1)).push (.ref y2)) (ln + 1 + 1)) :: (c.xT, instObj 208 c.dT) :: (c.dT, refTO w c) :: (c.xJ, instObj 208 c.dJ) :: (c.dJ, refJO w c) :: (c.ol, ordsO c) :: (c.o0, markO c.k0) :: (c.o1, oneO c.k1 c.k2 c.k3) :: (c.o2, setO c.k4 c.xT) :: (c.o3, placeO c.k5 c.xJ) :: (c.o4, failO c.k6) :: (c.o5, doneO c.k7) :: []) ∧ Apart t ((c.ho, instObj 589 c.dh) :: (c.dh, hostO w c n tn) :: (c.vd, vo) :: (c.rl, listOf ([] : List Value).toArray c.rn) :: (c.lg, listOf itA ln) :: (c.xT, instObj 208 c.dT) :: (c.dT, refTO w c) :: (c.xJ, instObj 208 c.dJ) :: (c.dJ, refJO w c) :: (c.ol, ordsO c) :: (c.o0, markO c.k0) :: (c.o1, oneO c.k1 c.k2 c.k3) :: (c.o2, setO c.k4 c.xT) :: (c.o3, placeO c.k5 c.xJ) :: (c.o4, failO c.k6) :: (c.o5, doneO c.k7) :: []) ∧ Apart y1 ((c.ho, instObj 589 c.dh) :: (c.dh, hostO w c n tn) :: (c.vd, vo) :: (c.rl, listOf ([] : List Value).toArray c.rn) :: (c.lg, listOf itA ln) :: (c.xT, instObj 208 c.dT) :: (c.dT, refTO w c) :: (c.xJ, instObj 208 c.dJ) :: (c.dJ, refJO w c) :: (c.ol, ordsO c) :: (c.o0, markO c.k0) :: (c.o1, oneO c.k1 c.k2 c.k3) :: (c.o2, setO c.k4 c.xT) :: (c.o3, placeO c.k5 c.xJ) :: (c.o4, failO c.k6) :: (c.o5, doneO c.k7) :: []) ∧ Apart y2 ((c.ho, instObj 589 c.dh) :: (c.dh, hostO w c n tn) :: (c.vd, vo) :: (c.rl, listOf ([] : List Value).toArray c.rn) :: (c.lg, listOf itA ln) :: (c.xT, instObj 208 c.dT) :: (c.dT, refTO w c) :: (c.xJ, instObj 208 c.dJ) :: (c.dJ, refJO w c) :: (c.ol, ordsO c) :: (c.o0, markO c.k0) :: (c.o1, oneO c.k1 c.k2 c.k3) :: (c.o2, setO c.k4 c.xT) :: (c.o3, placeO c.k5 c.xJ) :: (c.o4, failO c.k6) :: (c.o5, doneO c.k7) :: []) ∧ vo2.IsDictOf (PySem.strKind PySem.Challenge.rw_xm0959_01.row.prog w) kvs2 ∧ kvs2.length ≤ kvs.length + 2) ?k1 ?k2 ?k3 ?k4 ?k5 ?kA ?kF ?kK ?k6 ?k7 ?k8 ?k9 ?kB hl hw (fun p hp q hq e => off p hp q hq e.symm) ?_ ?kR ?c2 ?c3 ?c4 ?c5; walk_at "o_rest")
  case kR => (intro v news' h' tk' F' N' off' hsp; obtain ⟨t, y1, y2, c1, c2, c3, c4, c5, tn2, vo2, kvs2, rfl, rfl, a0, a1, a2, f0, f1⟩ := hsp; exact hret t y1 y2 c1 c2 c3 c4 c5 tn2 vo2 kvs2 h' tk' F' N' a0 a1 a2 (apart_own off' List.mem_cons_self) (apart_own off' (.tail _ List.mem_cons_self)) (apart_own off' (.tail _ (.tail _ List.mem_cons_self))) f0 f1)
  intro g' L' h' R' hR' FG' F' N' B' X' T' l1
  clear hl hw off hret N F FG' B T X
  k_lt l1
  walk_at "fn"
  (try dsimp only); (try k_fold)
  refine foldA ?_
  intro A9
  (try dsimp only [nodeLed, ordLed, List.cons_append, List.nil_append] at hd1); (first | (refine facts_of (l := _ :: _) hd1 ?_; clear hd1; k_dflt (repeat ((with_reducible show Facts _ (_ :: _) _); intro hq9)); first | ((with_reducible show Facts _ [] _); refine facts_any ?_) | (refine facts_tail ?_; intro hd1)) | (refine dfacts_of (l := _ :: _) hd1 ?_; clear hd1; k_dflt (repeat (first | ((with_reducible show Facts _ (_ :: _) _); intro hq9) | ((with_reducible show Facts _ [] (DFacts (_ :: _ :: _) _)); intro hq9) | ((with_reducible show DFacts (_ :: _ :: _) _); intro hq9))); refine dfacts_last ?_) | skip)
  have hle : b + strokes c.S b ≤ c.S.length := strokes_le hb
  k_steps
  refine hR' _ _ ?_
  (try dsimp only)
  refine' LeaveO.intro (news'' := (_, { cls := .type "tuple", data := .seq [.int 1 _, .none].toArray }) :: (_, { cls := .type "tuple", data := .seq [.str (Str.ofString "T") _, .str (Txt.slice c.S (some (b : Int)) (some ((b + strokes c.S b : Nat) : Int))) _].toArray }) :: (_, { cls := .type "tuple", data := .seq [.str (Str.ofString "J") _, .int ((b + strokes c.S b : Nat) : Int) _].toArray }) :: ((c.ho, instObj 589 c.dh) :: (c.dh, hostO w c (n + 1 + 1 + 1 + 1 + 1) _) :: (c.vd, _) :: (c.rl, listOf ([] : List Value).toArray c.rn) :: (c.lg, listOf ((itA.push (.ref _)).push (.ref _)) (ln + 1 + 1)) :: (c.xT, instObj 208 c.dT) :: (c.dT, refTO w c) :: (c.xJ, instObj 208 c.dJ) :: (c.dJ, refJO w c) :: (c.ol, ordsO c) :: (c.o0, markO c.k0) :: (c.o1, oneO c.k1 c.k2 c.k3) :: (c.o2, setO c.k4 c.xT) :: (c.o3, placeO c.k5 c.xJ) :: (c.o4, failO c.k6) :: (c.o5, doneO c.k7) :: [])) (by k_asm) (by k_asm) ?sub ⟨_, _, _, _, _, _, _, _, _, _, _, rfl, rfl, ?lt0, ?lt1, ?lt2, ?ft0, ?ft1⟩
  case sub => walk_at "all_in"
  case lt0 => walk_at "apart"
  case lt1 => walk_at "apart"
  case lt2 => walk_at "apart"
  case ft0 => k_asm
  case ft1 => omega
end
end
section
section
open PySem.Calls PySem.Spec
theorem row_tells : ∀ {w : World} {mean : ExcName → Option Value} {mg mb : Str → Option Value} {e1 e2 e3 e4 e5 : Env} {cn : Str} {cs : Scope} {a : Addr} {ccd : Value} {cl : List (Str × Addr)} {base h₀ : Heap} {L : Addr} {m : Str → Option Value} {news own : List (Addr × Obj)} {s : Shared} {Q E : Value → Shared → Prop}
    {c : NodeC} {tk : Tok}
    (hC : Cx (K9 w.params) V9 (looseW V9 [Str.ofString "SnobolError", Str.ofString "plain_count"]) mean mg mb cs (((((callerA.deeper e1).deeper e2).deeper e3).deeper e4).deeper e5) base [e5, e4, e3, e2, e1] h₀ L s.heap m news (nodeLed c) own)
    (hret : ∀ l n h' tk', Fr h₀ L h' m → News h₀ L h' (((l, listOf [.ref c.now, .ref c.cur, .ref c.fl].toArray n) :: (nodeLed c)) ++ own) → Apart l (nodeLed c) → Apart l own → Q (.ref l) { s with heap := h', toks := tk' }),
    wpAny (model PySem.Challenge.rw_xm0959_01.row.prog w) ((((((callerA.deeper e1).deeper e2).deeper e3).deeper e4).deeper e5).deeper (envX cn cs L a ccd cl)) (call (.ref 23) [.ref c.nd, .str (Str.ofString "cat") tk]) Q E s := by
  k_fill
  intro w mean mg mb e1 e2 e3 e4 e5 cn cs a ccd cl base h₀ L m news own s Q E c tk hC  hret
  obtain ⟨B, F, X, N, hl, hw, off, T, hk⟩ := hC
  refine wpAny_call ?_
  k_dflt (refine' codeO (fun v news' => ∃ l n, v = .ref l ∧ news' = (l, listOf [.ref c.now, .ref c.cur, .ref c.fl].toArray n) :: (nodeLed c) ∧ Apart l (nodeLed c)) ?k1 ?k2 ?k3 ?k4 ?k5 ?kA ?kF ?kK ?k6 ?k7 ?k8 ?k9 ?kB hl hw (fun p hp q hq e => off p hp q hq e.symm) ?_ ?kR ?c2 ?c3 ?c4 ?c5; walk_at "o_rest")
  case kR => (intro v news' h' tk' F' N' off' hsp; obtain ⟨l, n, rfl, rfl, a0⟩ := hsp; exact hret l n h' tk' F' N' a0 (apart_own off' List.mem_cons_self) )
  intro g' L' h' R' hR' FG' F' N' B' X' T' l1
  clear hl hw off hret N F FG' B T X
  k_lt l1
  walk_at "fn"
  (try dsimp only); (try k_fold)
  refine foldA ?_
  intro A9
  k_steps
  refine hR' _ _ ?_
  (try dsimp only)
  refine' LeaveO.intro (news'' := (_, listOf [.ref c.now, .ref c.cur, .ref c.fl].toArray _) :: (nodeLed c)) (by k_asm) (by k_asm) ?sub ⟨_, _, rfl, rfl, ?lt0⟩
  case sub => walk_at "all_in"
  case lt0 => walk_at "apart"
end
section
open PySem.Calls PySem.Spec
theorem wtj_tells : ∀ {w : World} {mean : ExcName → Option Value} {mg mb : Str → Option Value} {e1 e2 e3 e4 e5 : Env} {cn : Str} {cs : Scope} {a : Addr} {ccd : Value} {cl : List (Str × Addr)} {base h₀ : Heap} {L : Addr} {m : Str → Option Value} {news own : List (Addr × Obj)} {s : Shared} {Q E : Value → Shared → Prop}
    {c : NodeC} {l₀ : Addr} {n₀ : Nat}
    (hC : Cx (K9 w.params) V9 (looseW V9 [Str.ofString "SnobolError", Str.ofString "plain_count"]) mean mg mb cs (((((callerA.deeper e1).deeper e2).deeper e3).deeper e4).deeper e5) base [e5, e4, e3, e2, e1] h₀ L s.heap m news ((l₀, listOf [.ref c.now, .ref c.cur, .ref c.fl].toArray n₀) :: (nodeLed c)) own)
    (hret : ∀ l n h' tk', Fr h₀ L h' m → News h₀ L h' (((l, listOf [.ref c.now, .ref c.cur, .ref c.fl].toArray n) :: (nodeLed c)) ++ own) → Apart l (nodeLed c) → Apart l own → Q (.ref l) { s with heap := h', toks := tk' }),
    wpAny (model PySem.Challenge.rw_xm0959_01.row.prog w) ((((((callerA.deeper e1).deeper e2).deeper e3).deeper e4).deeper e5).deeper (envX cn cs L a ccd cl)) (call (.ref 37) [.ref l₀]) Q E s := by
  k_fill
  intro w mean mg mb e1 e2 e3 e4 e5 cn cs a ccd cl base h₀ L m news own s Q E c l₀ n₀ hC  hret
  obtain ⟨B, F, X, N, hl, hw, off, T, hk⟩ := hC
  refine wpAny_call ?_
  k_dflt (refine' codeO (fun v news' => ∃ l n, v = .ref l ∧ news' = (l, listOf [.ref c.now, .ref c.cur, .ref c.fl].toArray n) :: (nodeLed c) ∧ Apart l (nodeLed c)) ?k1 ?k2 ?k3 ?k4 ?k5 ?kA ?kF ?kK ?k6 ?k7 ?k8 ?k9 ?kB hl hw (fun p hp q hq e => off p hp q hq e.symm) ?_ ?kR ?c2 ?c3 ?c4 ?c5; walk_at "o_rest")
  case kR => (intro v news' h' tk' F' N' off' hsp; obtain ⟨l, n, rfl, rfl, a0⟩ := hsp; exact hret l n h' tk' F' N' a0 (apart_own off' List.mem_cons_self) )
  intro g' L' h' R' hR' FG' F' N' B' X' T' l1
  clear hl hw off hret N F FG' B T X
  k_lt l1
  walk_at "fn"
  (try dsimp only); (try k_fold)
  refine foldA ?_
  intro A9
  k_steps
  refine hR' _ _ ?_
  (try dsimp only)
  refine' LeaveO.intro (news'' := (_, listOf [.ref c.now, .ref c.cur, .ref c.fl].toArray _) :: (nodeLed c)) (by k_asm) (by k_asm) ?sub ⟨_, _, rfl, rfl, ?lt0⟩
  case sub => walk_at "all_in"
  case lt0 => walk_at "apart"
end
end
end
section
section
section
open PySem.Calls PySem.Spec
local macro_rules | `(tactic| walk_at "fn") => `(tactic| skip)
local macro_rules | `(tactic| walk_at "call ref") => `(tactic| ktd_call 23 (row_tells ?k ?_))
local macro_rules | `(tactic| walk_at "call ref") => `(tactic| ktd_call 37 (wtj_tells ?k ?_))
theorem bcat_tells : ∀ {w : World} {mean : ExcName → Option Value} {mg mb : Str → Option Value} {e1 e2 e3 e4 : Env} {cn : Str} {cs : Scope} {a : Addr} {ccd : Value} {cl : List (Str × Addr)} {base h₀ : Heap} {L : Addr} {m : Str → Option Value} {news own : List (Addr × Obj)} {s : Shared} {Q E : Value → Shared → Prop}
    {c : NodeC} {x₀ : Addr}
    (hC : Cx (K9 w.params) V9 (looseW V9 [Str.ofString "SnobolError", Str.ofString "plain_count"]) mean mg mb cs ((((callerA.deeper e1).deeper e2).deeper e3).deeper e4) base [e4, e3, e2, e1] h₀ L s.heap m news (nodeLed c) own)
    (hret : ∀ l p0 p1 p2 n k0 k1 k2 h' tk', Fr h₀ L h' m → News h₀ L h' (((l, listOf [.ref p0, .ref p1, .ref p2].toArray n) :: (p0, putO k0 c.now) :: (p1, putO k1 c.cur) :: (p2, putO k2 c.fl) :: (nodeLed c)) ++ own) → Apart l (nodeLed c) → Apart p0 (nodeLed c) → Apart p1 (nodeLed c) → Apart p2 (nodeLed c) → Apart l own → Apart p0 own → Apart p1 own → Apart p2 own → Q (.ref l) { s with heap := h', toks := tk' }),
    wpAny (model PySem.Challenge.rw_xm0959_01.row.prog w) (((((callerA.deeper e1).deeper e2).deeper e3).deeper e4).deeper (envX cn cs L a ccd cl)) (call (.ref 70) [.ref x₀, .ref c.nd]) Q E s := by
  k_fill
  intro w mean mg mb e1 e2 e3 e4 cn cs a ccd cl base h₀ L m news own s Q E c x₀ hC  hret
  obtain ⟨B, F, X, N, hl, hw, off, T, hk⟩ := hC
  refine wpAny_call ?_
  k_dflt (refine' codeO (fun v news' => ∃ l p0 p1 p2 n k0 k1 k2, v = .ref l ∧ news' = (l, listOf [.ref p0, .ref p1, .ref p2].toArray n) :: (p0, putO k0 c.now) :: (p1, putO k1 c.cur) :: (p2, putO k2 c.fl) :: (nodeLed c) ∧ Apart l (nodeLed c) ∧ Apart p0 (nodeLed c) ∧ Apart p1 (nodeLed c) ∧ Apart p2 (nodeLed c)) ?k1 ?k2 ?k3 ?k4 ?k5 ?kA ?kF ?kK ?k6 ?k7 ?k8 ?k9 ?kB hl hw (fun p hp q hq e => off p hp q hq e.symm) ?_ ?kR ?c2 ?c3 ?c4 ?c5; walk_at "o_rest")
  case kR => (intro v news' h' tk' F' N' off' hsp; obtain ⟨l, p0, p1, p2, n, k0, k1, k2, rfl, rfl, a0, a1, a2, a3⟩ := hsp; exact hret l p0 p1 p2 n k0 k1 k2 h' tk' F' N' a0 a1 a2 a3 (apart_own off' List.mem_cons_self) (apart_own off' (.tail _ List.mem_cons_self)) (apart_own off' (.tail _ (.tail _ List.mem_cons_self))) (apart_own off' (.tail _ (.tail _ (.tail _ List.mem_cons_self)))) )
  intro g' L' h' R' hR' FG' F' N' B' X' T' l1
  clear hl hw off hret N F FG' B T X
  k_lt l1
  walk_at "fn"
  (try dsimp only); (try k_fold)
  refine foldA ?_
  intro A9
  k_steps
  refine hR' _ _ ?_
  (try dsimp only)
  refine' LeaveO.intro (news'' := (_, listOf [.ref _, .ref _, .ref _].toArray _) :: (_, putO _ c.now) :: (_, putO _ c.cur) :: (_, putO _ c.fl) :: (nodeLed c)) (by k_asm) (by k_asm) ?sub ⟨_, _, _, _, _, _, _, _, rfl, rfl, ?lt0, ?lt1, ?lt2, ?lt3⟩
  case sub => walk_at "all_in"
  case lt0 => walk_at "apart"
  case lt1 => walk_at "apart"
  case lt2 => walk_at "apart"
  case lt3 => walk_at "apart"
end
end
end
section
local macro_rules | `(tactic| walk_at "storeName") => `(tactic| (k_dflt (refine' storeF ?F ?N ?_ ?a ?b; (case a | b => rfl); (case F | N => k_asm); k_whole); intro _ _ _ _; (try k_sweep)))
section
section
open PySem.Calls PySem.Spec
theorem bnow_tells : ∀ {w : World} {mean : ExcName → Option Value} {mg mb : Str → Option Value} {e1 e2 e3 e4 : Env} {cn : Str} {cs : Scope} {a : Addr} {ccd : Value} {cl : List (Str × Addr)} {base h₀ : Heap} {L : Addr} {m : Str → Option Value} {news own : List (Addr × Obj)} {s : Shared} {Q E : Value → Shared → Prop}
    {c : NodeC} {x dx ol : Addr} {kx : Tok} {en : Nat}
    (hC : Cx (K9 w.params) V9 (looseW V9 [Str.ofString "SnobolError", Str.ofString "plain_count"]) mean mg mb cs ((((callerA.deeper e1).deeper e2).deeper e3).deeper e4) base [e4, e3, e2, e1] h₀ L s.heap m news ((x, instObj 94 dx) :: (dx, (codeD w ol kx)) :: (ol, listOf [].toArray en) :: (nodeLed c)) own) (hd1 : Apart ol ((x, instObj 94 dx) :: (dx, (codeD w ol kx)) :: (nodeLed c)))
    (hret : ∀ l p0 p1 q o k1 n k2 k3 k4 en2 h' tk', Fr h₀ L h' m → News h₀ L h' (((l, listOf [.ref p0, .ref p1].toArray n) :: (p0, putO k2 c.spn) :: (p1, emitO k3 q) :: (q, setO k4 c.xT) :: (o, markO k1) :: (x, instObj 94 dx) :: (dx, (codeD w ol kx)) :: (ol, listOf [.ref o].toArray en2) :: (nodeLed c)) ++ own) → Apart l ((x, instObj 94 dx) :: (dx, (codeD w ol kx)) :: (ol, listOf [].toArray en) :: (nodeLed c)) → Apart p0 ((x, instObj 94 dx) :: (dx, (codeD w ol kx)) :: (ol, listOf [].toArray en) :: (nodeLed c)) → Apart p1 ((x, instObj 94 dx) :: (dx, (codeD w ol kx)) :: (ol, listOf [].toArray en) :: (nodeLed c)) → Apart q ((x, instObj 94 dx) :: (dx, (codeD w ol kx)) :: (ol, listOf [].toArray en) :: (nodeLed c)) → Apart o ((x, instObj 94 dx) :: (dx, (codeD w ol kx)) :: (ol, listOf [].toArray en) :: (nodeLed c)) → Apart l own → Apart p0 own → Apart p1 own → Apart q own → Apart o own → Dist [(q, setO k4 c.xT), (o, markO k1)] → Q (.ref l) { s with heap := h', toks := tk' }),
    wpAny (model PySem.Challenge.rw_xm0959_01.row.prog w) (((((callerA.deeper e1).deeper e2).deeper e3).deeper e4).deeper (envX cn cs L a ccd cl)) (call (.ref 70) [.ref x, .ref c.now]) Q E s := by
  k_fill
  intro w mean mg mb e1 e2 e3 e4 cn cs a ccd cl base h₀ L m news own s Q E c x dx ol kx en hC hd1 hret
  obtain ⟨B, F, X, N, hl, hw, off, T, hk⟩ := hC
  refine wpAny_call ?_
  k_dflt (refine' codeO (fun v news' => ∃ l p0 p1 q o k1 n k2 k3 k4 en2, v = .ref l ∧ news' = (l, listOf [.ref p0, .ref p1].toArray n) :: (p0, putO k2 c.spn) :: (p1, emitO k3 q) :: (q, setO k4 c.xT) :: (o, markO k1) :: (x, instObj 94 dx) :: (dx, (codeD w ol kx)) :: (ol, listOf [.ref o].toArray en2) :: (nodeLed c) ∧ Apart l ((x, instObj 94 dx) :: (dx, (codeD w ol kx)) :: (ol, listOf [].toArray en) :: (nodeLed c)) ∧ Apart p0 ((x, instObj 94 dx) :: (dx, (codeD w ol kx)) :: (ol, listOf [].toArray en) :: (nodeLed c)) ∧ Apart p1 ((x, instObj 94 dx) :: (dx, (codeD w ol kx)) :: (ol, listOf [].toArray en) :: (nodeLed c)) ∧ Apart q ((x, instObj 94 dx) :: (dx, (codeD w ol kx)) :: (ol, listOf [].toArray en) :: (nodeLed c)) ∧ Apart o ((x, instObj 94 dx) :: (dx, (codeD w ol kx)) :: (ol, listOf [].toArray en) :: (nodeLed c)) ∧ Dist [(q, setO k4 c.xT), (o, markO k1)]) ?k1 ?k2 ?k3 ?k4 ?k5 ?kA ?kF ?kK ?k6 ?k7 ?k8 ?k9 ?kB hl hw (fun p hp q hq e => off p hp q hq e.symm) ?_ ?kR ?c2 ?c3 ?c4 ?c5; walk_at "o_rest")
  case kR => (intro v news' h' tk' F' N' off' hsp; obtain ⟨l, p0, p1, q, o, k1, n, k2, k3, k4, en2, rfl, rfl, a0, a1, a2, a3, a4, f0⟩ := hsp; exact hret l p0 p1 q o k1 n k2 k3 k4 en2 h' tk' F' N' a0 a1 a2 a3 a4 (apart_own off' List.mem_cons_self) (apart_own off' (.tail _ List.mem_cons_self)) (apart_own off' (.tail _ (.tail _ List.mem_cons_self))) (apart_own off' (.tail _ (.tail _ (.tail _ List.mem_cons_self)))) (apart_own off' (.tail _ (.tail _ (.tail _ (.tail _ List.mem_cons_self))))) f0)
  intro g' L' h' R' hR' FG' F' N' B' X' T' l1
  clear hl hw off hret N F FG' B T X
  k_lt l1
  walk_at "fn"
  (try dsimp only); (try k_fold)
  refine foldA ?_
  intro A9
  (try dsimp only [nodeLed, ordLed, List.cons_append, List.nil_append] at hd1); (first | (refine facts_of (l := _ :: _) hd1 ?_; clear hd1; k_dflt (repeat ((with_reducible show Facts _ (_ :: _) _); intro hq9)); first | ((with_reducible show Facts _ [] _); refine facts_any ?_) | (refine facts_tail ?_; intro hd1)) | (refine dfacts_of (l := _ :: _) hd1 ?_; clear hd1; k_dflt (repeat (first | ((with_reducible show Facts _ (_ :: _) _); intro hq9) | ((with_reducible show Facts _ [] (DFacts (_ :: _ :: _) _)); intro hq9) | ((with_reducible show DFacts (_ :: _ :: _) _); intro hq9))); refine dfacts_last ?_) | skip)
  k_steps
  refine hR' _ _ ?_
  (try dsimp only)
  refine' LeaveO.intro (news'' := (_, listOf [.ref _, .ref _].toArray _) :: (_, putO _ c.spn) :: (_, emitO _ _) :: (_, setO _ c.xT) :: (_, markO _) :: (x, instObj 94 dx) :: (dx, (codeD w ol kx)) :: (ol, listOf [.ref _].toArray _) :: (nodeLed c)) (by k_asm) (by k_asm) ?sub ⟨_, _, _, _, _, _, _, _, _, _, _, rfl, rfl, ?lt0, ?lt1, ?lt2, ?lt3, ?lt4, ?ft0⟩
  case sub => walk_at "all_in"
  case lt0 => walk_at "apart"
  case lt1 => walk_at "apart"
  case lt2 => walk_at "apart"
  case lt3 => walk_at "apart"
  case lt4 => walk_at "apart"
  case ft0 => walk_at "apart"
end
section
open PySem.Calls PySem.Spec
theorem bspn_tells : ∀ {w : World} {mean : ExcName → Option Value} {mg mb : Str → Option Value} {e1 e2 e3 e4 : Env} {cn : Str} {cs : Scope} {a : Addr} {ccd : Value} {cl : List (Str × Addr)} {base h₀ : Heap} {L : Addr} {m : Str → Option Value} {news own : List (Addr × Obj)} {s : Shared} {Q E : Value → Shared → Prop}
    {c : NodeC} {x dx ol : Addr} {kx : Tok} {en : Nat} {o0 : Addr}
    (hC : Cx (K9 w.params) V9 (looseW V9 [Str.ofString "SnobolError", Str.ofString "plain_count"]) mean mg mb cs ((((callerA.deeper e1).deeper e2).deeper e3).deeper e4) base [e4, e3, e2, e1] h₀ L s.heap m news ((x, instObj 94 dx) :: (dx, (codeD w ol kx)) :: (ol, listOf [.ref o0].toArray en) :: (nodeLed c)) own) (hd1 : Apart ol ((x, instObj 94 dx) :: (dx, (codeD w ol kx)) :: (nodeLed c)))
    (hret : ∀ l o k1 k2 k3 n en2 h' tk', Fr h₀ L h' m → News h₀ L h' (((l, listOf ([] : List Value).toArray n) :: (o, oneO k1 k2 k3) :: (x, instObj 94 dx) :: (dx, (codeD w ol kx)) :: (ol, listOf [.ref o0, .ref o].toArray en2) :: (nodeLed c)) ++ own) → Apart l ((x, instObj 94 dx) :: (dx, (codeD w ol kx)) :: (ol, listOf [.ref o0].toArray en) :: (nodeLed c)) → Apart o ((x, instObj 94 dx) :: (dx, (codeD w ol kx)) :: (ol, listOf [.ref o0].toArray en) :: (nodeLed c)) → Apart l own → Apart o own → Q (.ref l) { s with heap := h', toks := tk' }),
    wpAny (model PySem.Challenge.rw_xm0959_01.row.prog w) (((((callerA.deeper e1).deeper e2).deeper e3).deeper e4).deeper (envX cn cs L a ccd cl)) (call (.ref 70) [.ref x, .ref c.spn]) Q E s := by
  k_fill
  intro w mean mg mb e1 e2 e3 e4 cn cs a ccd cl base h₀ L m news own s Q E c x dx ol kx en o0 hC hd1 hret
  obtain ⟨B, F, X, N, hl, hw, off, T, hk⟩ := hC
  refine wpAny_call ?_
  k_dflt (refine' codeO (fun v news' => ∃ l o k1 k2 k3 n en2, v = .ref l ∧ news' = (l, listOf ([] : List Value).toArray n) :: (o, oneO k1 k2 k3) :: (x, instObj 94 dx) :: (dx, (codeD w ol kx)) :: (ol, listOf [.ref o0, .ref o].toArray en2) :: (nodeLed c) ∧ Apart l ((x, instObj 94 dx) :: (dx, (codeD w ol kx)) :: (ol, listOf [.ref o0].toArray en) :: (nodeLed c)) ∧ Apart o ((x, instObj 94 dx) :: (dx, (codeD w ol kx)) :: (ol, listOf [.ref o0].toArray en) :: (nodeLed c))) ?k1 ?k2 ?k3 ?k4 ?k5 ?kA ?kF ?kK ?k6 ?k7 ?k8 ?k9 ?kB hl hw (fun p hp q hq e => off p hp q hq e.symm) ?_ ?kR ?c2 ?c3 ?c4 ?c5; walk_at "o_rest")
  case kR => (intro v news' h' tk' F' N' off' hsp; obtain ⟨l, o, k1, k2, k3, n, en2, rfl, rfl, a0, a1⟩ := hsp; exact hret l o k1 k2 k3 n en2 h' tk' F' N' a0 a1 (apart_own off' List.mem_cons_self) (apart_own off' (.tail _ List.mem_cons_self)) )
  intro g' L' h' R' hR' FG' F' N' B' X' T' l1
  clear hl hw off hret N F FG' B T X
  k_lt l1
  walk_at "fn"
  (try dsimp only); (try k_fold)
  refine foldA ?_
  intro A9
  (try dsimp only [nodeLed, ordLed, List.cons_append, List.nil_append] at hd1); (first | (refine facts_of (l := _ :: _) hd1 ?_; clear hd1; k_dflt (repeat ((with_reducible show Facts _ (_ :: _) _); intro hq9)); first | ((with_reducible show Facts _ [] _); refine facts_any ?_) | (refine facts_tail ?_; intro hd1)) | (refine dfacts_of (l := _ :: _) hd1 ?_; clear hd1; k_dflt (repeat (first | ((with_reducible show Facts _ (_ :: _) _); intro hq9) | ((with_reducible show Facts _ [] (DFacts (_ :: _ :: _) _)); intro hq9) | ((with_reducible show DFacts (_ :: _ :: _) _); intro hq9))); refine dfacts_last ?_) | skip)
  k_steps
  refine hR' _ _ ?_
  (try dsimp only)
  refine' LeaveO.intro (news'' := (_, listOf ([] : List Value).toArray _) :: (_, oneO _ _ _) :: (x, instObj 94 dx) :: (dx, (codeD w ol kx)) :: (ol, listOf [.ref o0, .ref _].toArray _) :: (nodeLed c)) (by k_asm) (by k_asm) ?sub ⟨_, _, _, _, _, _, _, rfl, rfl, ?lt0, ?lt1⟩
  case sub => walk_at "all_in"
  case lt0 => walk_at "apart"
  case lt1 => walk_at "apart"
end
section
open PySem.Calls PySem.Spec
theorem bcur_tells : ∀ {w : World} {mean : ExcName → Option Value} {mg mb : Str → Option Value} {e1 e2 e3 e4 : Env} {cn : Str} {cs : Scope} {a : Addr} {ccd : Value} {cl : List (Str × Addr)} {base h₀ : Heap} {L : Addr} {m : Str → Option Value} {news own : List (Addr × Obj)} {s : Shared} {Q E : Value → Shared → Prop}
    {c : NodeC} {x dx ol : Addr} {kx : Tok} {en : Nat} {o0 o1 o2 : Addr}
    (hC : Cx (K9 w.params) V9 (looseW V9 [Str.ofString "SnobolError", Str.ofString "plain_count"]) mean mg mb cs ((((callerA.deeper e1).deeper e2).deeper e3).deeper e4) base [e4, e3, e2, e1] h₀ L s.heap m news ((x, instObj 94 dx) :: (dx, (codeD w ol kx)) :: (ol, listOf [.ref o0, .ref o1, .ref o2].toArray en) :: (nodeLed c)) own) (hd1 : Apart ol ((x, instObj 94 dx) :: (dx, (codeD w ol kx)) :: (nodeLed c)))
    (hret : ∀ l o k1 n en2 h' tk', Fr h₀ L h' m → News h₀ L h' (((l, listOf ([] : List Value).toArray n) :: (o, placeO k1 c.xJ) :: (x, instObj 94 dx) :: (dx, (codeD w ol kx)) :: (ol, listOf [.ref o0, .ref o1, .ref o2, .ref o].toArray en2) :: (nodeLed c)) ++ own) → Apart l ((x, instObj 94 dx) :: (dx, (codeD w ol kx)) :: (ol, listOf [.ref o0, .ref o1, .ref o2].toArray en) :: (nodeLed c)) → Apart o ((x, instObj 94 dx) :: (dx, (codeD w ol kx)) :: (ol, listOf [.ref o0, .ref o1, .ref o2].toArray en) :: (nodeLed c)) → Apart l own → Apart o own → Q (.ref l) { s with heap := h', toks := tk' }),
    wpAny (model PySem.Challenge.rw_xm0959_01.row.prog w) (((((callerA.deeper e1).deeper e2).deeper e3).deeper e4).deeper (envX cn cs L a ccd cl)) (call (.ref 70) [.ref x, .ref c.cur]) Q E s := by
  k_fill
  intro w mean mg mb e1 e2 e3 e4 cn cs a ccd cl base h₀ L m news own s Q E c x dx ol kx en o0 o1 o2 hC hd1 hret
  obtain ⟨B, F, X, N, hl, hw, off, T, hk⟩ := hC
  refine wpAny_call ?_
  k_dflt (refine' codeO (fun v news' => ∃ l o k1 n en2, v = .ref l ∧ news' = (l, listOf ([] : List Value).toArray n) :: (o, placeO k1 c.xJ) :: (x, instObj 94 dx) :: (dx, (codeD w ol kx)) :: (ol, listOf [.ref o0, .ref o1, .ref o2, .ref o].toArray en2) :: (nodeLed c) ∧ Apart l ((x, instObj 94 dx) :: (dx, (codeD w ol kx)) :: (ol, listOf [.ref o0, .ref o1, .ref o2].toArray en) :: (nodeLed c)) ∧ Apart o ((x, instObj 94 dx) :: (dx, (codeD w ol kx)) :: (ol, listOf [.ref o0, .ref o1, .ref o2].toArray en) :: (nodeLed c))) ?k1 ?k2 ?k3 ?k4 ?k5 ?kA ?kF ?kK ?k6 ?k7 ?k8 ?k9 ?kB hl hw (fun p hp q hq e => off p hp q hq e.symm) ?_ ?kR ?c2 ?c3 ?c4 ?c5; walk_at "o_rest")
  case kR => (intro v news' h' tk' F' N' off' hsp; obtain ⟨l, o, k1, n, en2, rfl, rfl, a0, a1⟩ := hsp; exact hret l o k1 n en2 h' tk' F' N' a0 a1 (apart_own off' List.mem_cons_self) (apart_own off' (.tail _ List.mem_cons_self)) )
  intro g' L' h' R' hR' FG' F' N' B' X' T' l1
  clear hl hw off hret N F FG' B T X
  k_lt l1
  walk_at "fn"
  (try dsimp only); (try k_fold)
  refine foldA ?_
  intro A9
  (try dsimp only [nodeLed, ordLed, List.cons_append, List.nil_append] at hd1); (first | (refine facts_of (l := _ :: _) hd1 ?_; clear hd1; k_dflt (repeat ((with_reducible show Facts _ (_ :: _) _); intro hq9)); first | ((with_reducible show Facts _ [] _); refine facts_any ?_) | (refine facts_tail ?_; intro hd1)) | (refine dfacts_of (l := _ :: _) hd1 ?_; clear hd1; k_dflt (repeat (first | ((with_reducible show Facts _ (_ :: _) _); intro hq9) | ((with_reducible show Facts _ [] (DFacts (_ :: _ :: _) _)); intro hq9) | ((with_reducible show DFacts (_ :: _ :: _) _); intro hq9))); refine dfacts_last ?_) | skip)
  k_steps
  refine hR' _ _ ?_
  (try dsimp only)
  refine' LeaveO.intro (news'' := (_, listOf ([] : List Value).toArray _) :: (_, placeO _ c.xJ) :: (x, instObj 94 dx) :: (dx, (codeD w ol kx)) :: (ol, listOf [.ref o0, .ref o1, .ref o2, .ref _].toArray _) :: (nodeLed c)) (by k_asm) (by k_asm) ?sub ⟨_, _, _, _, _, rfl, rfl, ?lt0, ?lt1⟩
  case sub => walk_at "all_in"
  case lt0 => walk_at "apart"
  case lt1 => walk_at "apart"
end
section
open PySem.Calls PySem.Spec
theorem bfl_tells : ∀ {w : World} {mean : ExcName → Option Value} {mg mb : Str → Option Value} {e1 e2 e3 e4 : Env} {cn : Str} {cs : Scope} {a : Addr} {ccd : Value} {cl : List (Str × Addr)} {base h₀ : Heap} {L : Addr} {m : Str → Option Value} {news own : List (Addr × Obj)} {s : Shared} {Q E : Value → Shared → Prop}
    {c : NodeC} {x dx ol : Addr} {kx : Tok} {en : Nat} {o0 o1 o2 o3 : Addr}
    (hC : Cx (K9 w.params) V9 (looseW V9 [Str.ofString "SnobolError", Str.ofString "plain_count"]) mean mg mb cs ((((callerA.deeper e1).deeper e2).deeper e3).deeper e4) base [e4, e3, e2, e1] h₀ L s.heap m news ((x, instObj 94 dx) :: (dx, (codeD w ol kx)) :: (ol, listOf [.ref o0, .ref o1, .ref o2, .ref o3].toArray en) :: (nodeLed c)) own) (hd1 : Apart ol ((x, instObj 94 dx) :: (dx, (codeD w ol kx)) :: (nodeLed c)))
    (hret : ∀ l o k1 n en2 h' tk', Fr h₀ L h' m → News h₀ L h' (((l, listOf ([] : List Value).toArray n) :: (o, failO k1) :: (x, instObj 94 dx) :: (dx, (codeD w ol kx)) :: (ol, listOf [.ref o0, .ref o1, .ref o2, .ref o3, .ref o].toArray en2) :: (nodeLed c)) ++ own) → Apart l ((x, instObj 94 dx) :: (dx, (codeD w ol kx)) :: (ol, listOf [.ref o0, .ref o1, .ref o2, .ref o3].toArray en) :: (nodeLed c)) → Apart o ((x, instObj 94 dx) :: (dx, (codeD w ol kx)) :: (ol, listOf [.ref o0, .ref o1, .ref o2, .ref o3].toArray en) :: (nodeLed c)) → Apart l own → Apart o own → Q (.ref l) { s with heap := h', toks := tk' }),
    wpAny (model PySem.Challenge.rw_xm0959_01.row.prog w) (((((callerA.deeper e1).deeper e2).deeper e3).deeper e4).deeper (envX cn cs L a ccd cl)) (call (.ref 70) [.ref x, .ref c.fl]) Q E s := by
  k_fill
  intro w mean mg mb e1 e2 e3 e4 cn cs a ccd cl base h₀ L m news own s Q E c x dx ol kx en o0 o1 o2 o3 hC hd1 hret
  obtain ⟨B, F, X, N, hl, hw, off, T, hk⟩ := hC
  refine wpAny_call ?_
  k_dflt (refine' codeO (fun v news' => ∃ l o k1 n en2, v = .ref l ∧ news' = (l, listOf ([] : List Value).toArray n) :: (o, failO k1) :: (x, instObj 94 dx) :: (dx, (codeD w ol kx)) :: (ol, listOf [.ref o0, .ref o1, .ref o2, .ref o3, .ref o].toArray en2) :: (nodeLed c) ∧ Apart l ((x, instObj 94 dx) :: (dx, (codeD w ol kx)) :: (ol, listOf [.ref o0, .ref o1, .ref o2, .ref o3].toArray en) :: (nodeLed c)) ∧ Apart o ((x, instObj 94 dx) :: (dx, (codeD w ol kx)) :: (ol, listOf [.ref o0, .ref o1, .ref o2, .ref o3].toArray en) :: (nodeLed c))) ?k1 ?k2 ?k3 ?k4 ?k5 ?kA ?kF ?kK ?k6 ?k7 ?k8 ?k9 ?kB hl hw (fun p hp q hq e => off p hp q hq e.symm) ?_ ?kR ?c2 ?c3 ?c4 ?c5; walk_at "o_rest")
  case kR => (intro v news' h' tk' F' N' off' hsp; obtain ⟨l, o, k1, n, en2, rfl, rfl, a0, a1⟩ := hsp; exact hret l o k1 n en2 h' tk' F' N' a0 a1 (apart_own off' List.mem_cons_self) (apart_own off' (.tail _ List.mem_cons_self)) )
  intro g' L' h' R' hR' FG' F' N' B' X' T' l1
  clear hl hw off hret N F FG' B T X
  k_lt l1
  walk_at "fn"
  (try dsimp only); (try k_fold)
  refine foldA ?_
  intro A9
  (try dsimp only [nodeLed, ordLed, List.cons_append, List.nil_append] at hd1); (first | (refine facts_of (l := _ :: _) hd1 ?_; clear hd1; k_dflt (repeat ((with_reducible show Facts _ (_ :: _) _); intro hq9)); first | ((with_reducible show Facts _ [] _); refine facts_any ?_) | (refine facts_tail ?_; intro hd1)) | (refine dfacts_of (l := _ :: _) hd1 ?_; clear hd1; k_dflt (repeat (first | ((with_reducible show Facts _ (_ :: _) _); intro hq9) | ((with_reducible show Facts _ [] (DFacts (_ :: _ :: _) _)); intro hq9) | ((with_reducible show DFacts (_ :: _ :: _) _); intro hq9))); refine dfacts_last ?_) | skip)
  k_steps
  refine hR' _ _ ?_
  (try dsimp only)
  refine' LeaveO.intro (news'' := (_, listOf ([] : List Value).toArray _) :: (_, failO _) :: (x, instObj 94 dx) :: (dx, (codeD w ol kx)) :: (ol, listOf [.ref o0, .ref o1, .ref o2, .ref o3, .ref _].toArray _) :: (nodeLed c)) (by k_asm) (by k_asm) ?sub ⟨_, _, _, _, _, rfl, rfl, ?lt0, ?lt1⟩
  case sub => walk_at "all_in"
  case lt0 => walk_at "apart"
  case lt1 => walk_at "apart"
end
end
section
section
open PySem.Calls PySem.Spec
local macro_rules | `(tactic| walk_at "call ref") => `(tactic| ktn_call 70 (bfl_tells (own := [(_, listOf ([] : List Value).toArray (_ + 1)), (_, markO _), (_, oneO _ _ _), (_, setO _ _), (_, placeO _ _)]) ?k ?x0 ?_))
local macro_rules | `(tactic| walk_at "call ref") => `(tactic| ktn_call 70 (bcur_tells (own := [(_, listOf [.ref ?za4].toArray _), (?za4, putO _ _), (_, markO _), (_, oneO _ _ _), (_, setO _ _)]) ?k ?x0 ?_))
local macro_rules | `(tactic| walk_at "call ref") => `(tactic| ktn_call 70 (bspn_tells (own := [(_, listOf [.ref ?za3, .ref ?zb3, .ref ?zc3].toArray _), (?za3, putO _ _), (?zb3, putO _ _), (?zc3, emitO _ ?zq3), (?zq3, setO _ _), (_, markO _)]) ?k ?x0 ?_))
local macro_rules | `(tactic| walk_at "call ref") => `(tactic| ktn_call 70 (bnow_tells (own := [(_, listOf [.ref ?za2, .ref ?zb2].toArray _), (?za2, putO _ _), (?zb2, putO _ _)]) ?k ?x0 ?_))
local macro_rules | `(tactic| walk_at "call ref") => `(tactic| ktn_call 70 (bcat_tells (own := [(_, listOf ([] : List Value).toArray (_ + 1)), (?zx1, instObj 94 ?zd1), (?zd1, codeD _ ?zo1 _), (?zo1, listOf ([] : List Value).toArray _)]) ?k ?_))
theorem put_tells : ∀ {w : World} {mean : ExcName → Option Value} {mg mb : Str → Option Value} {e1 e2 e3 : Env} {cn : Str} {cs : Scope} {a : Addr} {ccd : Value} {cl : List (Str × Addr)} {base h₀ : Heap} {L : Addr} {m : Str → Option Value} {news own : List (Addr × Obj)} {s : Shared} {Q E : Value → Shared → Prop}
    {c : NodeC} {x dx ol : Addr} {kx : Tok} {en : Nat}
    (hC : Cx (K9 w.params) V9 (looseW V9 [Str.ofString "SnobolError", Str.ofString "plain_count"]) mean mg mb cs (((callerA.deeper e1).deeper e2).deeper e3) base [e3, e2, e1] h₀ L s.heap m news ((x, instObj 94 dx) :: (dx, (codeD w ol kx)) :: (ol, listOf [].toArray en) :: (nodeLed c)) own) (hd1 : Apart ol ((x, instObj 94 dx) :: (dx, (codeD w ol kx)) :: (nodeLed c))) (hd2 : Apart x (nodeLed c)) (hd3 : Apart dx (nodeLed c))
    (hret : ∀ o0 o1 o2 o3 o4 k0 k1 k2 k3 k4 k5 k6 en2 h' tk', Fr h₀ L h' m → News h₀ L h' (((o0, markO k0) :: (o1, oneO k1 k2 k3) :: (o2, setO k4 c.xT) :: (o3, placeO k5 c.xJ) :: (o4, failO k6) :: (x, instObj 94 dx) :: (dx, (codeD w ol kx)) :: (ol, listOf [.ref o0, .ref o1, .ref o2, .ref o3, .ref o4].toArray en2) :: (nodeLed c)) ++ own) → Apart o0 ((x, instObj 94 dx) :: (dx, (codeD w ol kx)) :: (ol, listOf [].toArray en) :: (nodeLed c)) → Apart o1 ((x, instObj 94 dx) :: (dx, (codeD w ol kx)) :: (ol, listOf [].toArray en) :: (nodeLed c)) → Apart o2 ((x, instObj 94 dx) :: (dx, (codeD w ol kx)) :: (ol, listOf [].toArray en) :: (nodeLed c)) → Apart o3 ((x, instObj 94 dx) :: (dx, (codeD w ol kx)) :: (ol, listOf [].toArray en) :: (nodeLed c)) → Apart o4 ((x, instObj 94 dx) :: (dx, (codeD w ol kx)) :: (ol, listOf [].toArray en) :: (nodeLed c)) → Apart o0 own → Apart o1 own → Apart o2 own → Apart o3 own → Apart o4 own → Dist [(o0, markO k0), (o1, oneO k1 k2 k3), (o2, setO k4 c.xT), (o3, placeO k5 c.xJ), (o4, failO k6)] → Q (.none) { s with heap := h', toks := tk' }),
    wpAny (model PySem.Challenge.rw_xm0959_01.row.prog w) ((((callerA.deeper e1).deeper e2).deeper e3).deeper (envX cn cs L a ccd cl)) (call (.ref 65) [.ref x, .ref c.nd]) Q E s := by
  k_fill
  intro w mean mg mb e1 e2 e3 cn cs a ccd cl base h₀ L m news own s Q E c x dx ol kx en hC hd1 hd2 hd3 hret
  obtain ⟨B, F, X, N, hl, hw, off, T, hk⟩ := hC
  refine wpAny_call ?_
  k_dflt (refine' codeO (fun v news' => ∃ o0 o1 o2 o3 o4 k0 k1 k2 k3 k4 k5 k6 en2, v = .none ∧ news' = (o0, markO k0) :: (o1, oneO k1 k2 k3) :: (o2, setO k4 c.xT) :: (o3, placeO k5 c.xJ) :: (o4, failO k6) :: (x, instObj 94 dx) :: (dx, (codeD w ol kx)) :: (ol, listOf [.ref o0, .ref o1, .ref o2, .ref o3, .ref o4].toArray en2) :: (nodeLed c) ∧ Apart o0 ((x, instObj 94 dx) :: (dx, (codeD w ol kx)) :: (ol, listOf [].toArray en) :: (nodeLed c)) ∧ Apart o1 ((x, instObj 94 dx) :: (dx, (codeD w ol kx)) :: (ol, listOf [].toArray en) :: (nodeLed c)) ∧ Apart o2 ((x, instObj 94 dx) :: (dx, (codeD w ol kx)) :: (ol, listOf [].toArray en) :: (nodeLed c)) ∧ Apart o3 ((x, instObj 94 dx) :: (dx, (codeD w ol kx)) :: (ol, listOf [].toArray en) :: (nodeLed c)) ∧ Apart o4 ((x, instObj 94 dx) :: (dx, (codeD w ol kx)) :: (ol, listOf [].toArray en) :: (nodeLed c)) ∧ Dist [(o0, markO k0), (o1, oneO k1 k2 k3), (o2, setO k4 c.xT), (o3, placeO k5 c.xJ), (o4, failO k6)]) ?k1 ?k2 ?k3 ?k4 ?k5 ?kA ?kF ?kK ?k6 ?k7 ?k8 ?k9 ?kB hl hw (fun p hp q hq e => off p hp q hq e.symm) ?_ ?kR ?c2 ?c3 ?c4 ?c5; walk_at "o_rest")
  case kR => (intro v news' h' tk' F' N' off' hsp; obtain ⟨o0, o1, o2, o3, o4, k0, k1, k2, k3, k4, k5, k6, en2, rfl, rfl, a0, a1, a2, a3, a4, f0⟩ := hsp; exact hret o0 o1 o2 o3 o4 k0 k1 k2 k3 k4 k5 k6 en2 h' tk' F' N' a0 a1 a2 a3 a4 (apart_own off' List.mem_cons_self) (apart_own off' (.tail _ List.mem_cons_self)) (apart_own off' (.tail _ (.tail _ List.mem_cons_self))) (apart_own off' (.tail _ (.tail _ (.tail _ List.mem_cons_self)))) (apart_own off' (.tail _ (.tail _ (.tail _ (.tail _ List.mem_cons_self))))) f0)
  intro g' L' h' R' hR' FG' F' N' B' X' T' l1
  clear hl hw off hret N F FG' B T X
  k_lt l1
  walk_at "fn"
  (try dsimp only); (try k_fold)
  refine foldA ?_
  intro A9
  (try dsimp only [nodeLed, ordLed, List.cons_append, List.nil_append] at hd1); (first | (refine facts_of (l := _ :: _) hd1 ?_; clear hd1; k_dflt (repeat ((with_reducible show Facts _ (_ :: _) _); intro hq9)); first | ((with_reducible show Facts _ [] _); refine facts_any ?_) | (refine facts_tail ?_; intro hd1)) | (refine dfacts_of (l := _ :: _) hd1 ?_; clear hd1; k_dflt (repeat (first | ((with_reducible show Facts _ (_ :: _) _); intro hq9) | ((with_reducible show Facts _ [] (DFacts (_ :: _ :: _) _)); intro hq9) | ((with_reducible show DFacts (_ :: _ :: _) _); intro hq9))); refine dfacts_last ?_) | skip)
  (try dsimp only [nodeLed, ordLed, List.cons_append, List.nil_append] at hd2); (first | (refine facts_of (l := _ :: _) hd2 ?_; clear hd2; k_dflt (repeat ((with_reducible show Facts _ (_ :: _) _); intro hq9)); first | ((with_reducible show Facts _ [] _); refine facts_any ?_) | (refine facts_tail ?_; intro hd2)) | (refine dfacts_of (l := _ :: _) hd2 ?_; clear hd2; k_dflt (repeat (first | ((with_reducible show Facts _ (_ :: _) _); intro hq9) | ((with_reducible show Facts _ [] (DFacts (_ :: _ :: _) _)); intro hq9) | ((with_reducible show DFacts (_ :: _ :: _) _); intro hq9))); refine dfacts_last ?_) | skip)
  (try dsimp only [nodeLed, ordLed, List.cons_append, List.nil_append] at hd3); (first | (refine facts_of (l := _ :: _) hd3 ?_; clear hd3; k_dflt (repeat ((with_reducible show Facts _ (_ :: _) _); intro hq9)); first | ((with_reducible show Facts _ [] _); refine facts_any ?_) | (refine facts_tail ?_; intro hd3)) | (refine dfacts_of (l := _ :: _) hd3 ?_; clear hd3; k_dflt (repeat (first | ((with_reducible show Facts _ (_ :: _) _); intro hq9) | ((with_reducible show Facts _ [] (DFacts (_ :: _ :: _) _)); intro hq9) | ((with_reducible show DFacts (_ :: _ :: _) _); intro hq9))); refine dfacts_last ?_) | skip)
  k_steps
  refine hR' _ _ ?_
  (try dsimp only)
  refine' LeaveO.intro (news'' := (_, markO _) :: (_, oneO _ _ _) :: (_, setO _ c.xT) :: (_, placeO _ c.xJ) :: (_, failO _) :: (x, instObj 94 dx) :: (dx, (codeD w ol kx)) :: (ol, listOf [.ref _, .ref _, .ref _, .ref _, .ref _].toArray _) :: (nodeLed c)) (by k_asm) (by k_asm) ?sub ⟨_, _, _, _, _, _, _, _, _, _, _, _, _, rfl, rfl, ?lt0, ?lt1, ?lt2, ?lt3, ?lt4, ?ft0⟩
  case sub => walk_at "all_in"
  case lt0 => walk_at "apart"
  case lt1 => walk_at "apart"
  case lt2 => walk_at "apart"
  case lt3 => walk_at "apart"
  case lt4 => walk_at "apart"
  case ft0 => walk_at "apart"
end
end
section
section
open PySem.Calls PySem.Spec
theorem straight_tells : ∀ {w : World} {mean : ExcName → Option Value} {mg mb : Str → Option Value} {e1 e2 e3 : Env} {cn : Str} {cs : Scope} {a : Addr} {ccd : Value} {cl : List (Str × Addr)} {base h₀ : Heap} {L : Addr} {m : Str → Option Value} {news own : List (Addr × Obj)} {s : Shared} {Q E : Value → Shared → Prop}
    {o0 o1 o2 o3 o4 o5 xT xJ : Addr} {k0 k1 k2 k3 k4 k5 k6 k7 : Tok} {ol : Addr} {en : Nat}
    (hC : Cx (K9 w.params) V9 (looseW V9 [Str.ofString "SnobolError", Str.ofString "plain_count"]) mean mg mb cs (((callerA.deeper e1).deeper e2).deeper e3) base [e3, e2, e1] h₀ L s.heap m news ((ol, listOf [.ref o0, .ref o1, .ref o2, .ref o3, .ref o4, .ref o5].toArray en) :: (ordLed o0 o1 o2 o3 o4 o5 xT xJ k0 k1 k2 k3 k4 k5 k6 k7)) own)
    (hret : ∀ l n h' tk', Fr h₀ L h' m → News h₀ L h' (((l, listOf [.ref o0, .ref o1, .ref o2, .ref o3, .ref o4, .ref o5].toArray n) :: (ordLed o0 o1 o2 o3 o4 o5 xT xJ k0 k1 k2 k3 k4 k5 k6 k7)) ++ own) → Apart l (ordLed o0 o1 o2 o3 o4 o5 xT xJ k0 k1 k2 k3 k4 k5 k6 k7) → Apart l own → Q (.ref l) { s with heap := h', toks := tk' }),
    wpAny (model PySem.Challenge.rw_xm0959_01.row.prog w) ((((callerA.deeper e1).deeper e2).deeper e3).deeper (envX cn cs L a ccd cl)) (call (.ref 105) [.ref ol]) Q E s := by
  k_fill
  intro w mean mg mb e1 e2 e3 cn cs a ccd cl base h₀ L m news own s Q E o0 o1 o2 o3 o4 o5 xT xJ k0 k1 k2 k3 k4 k5 k6 k7 ol en hC  hret
  obtain ⟨B, F, X, N, hl, hw, off, T, hk⟩ := hC
  refine wpAny_call ?_
  k_dflt (refine' codeO (fun v news' => ∃ l n, v = .ref l ∧ news' = (l, listOf [.ref o0, .ref o1, .ref o2, .ref o3, .ref o4, .ref o5].toArray n) :: (ordLed o0 o1 o2 o3 o4 o5 xT xJ k0 k1 k2 k3 k4 k5 k6 k7) ∧ Apart l (ordLed o0 o1 o2 o3 o4 o5 xT xJ k0 k1 k2 k3 k4 k5 k6 k7)) ?k1 ?k2 ?k3 ?k4 ?k5 ?kA ?kF ?kK ?k6 ?k7 ?k8 ?k9 ?kB hl hw (fun p hp q hq e => off p hp q hq e.symm) ?_ ?kR ?c2 ?c3 ?c4 ?c5; walk_at "o_rest")
  case kR => (intro v news' h' tk' F' N' off' hsp; obtain ⟨l, n, rfl, rfl, a0⟩ := hsp; exact hret l n h' tk' F' N' a0 (apart_own off' List.mem_cons_self) )
  intro g' L' h' R' hR' FG' F' N' B' X' T' l1
  clear hl hw off hret N F FG' B T X
  k_lt l1
  walk_at "fn"
  (try dsimp only); (try k_fold)
  refine foldA ?_
  intro A9
  k_steps
  refine hR' _ _ ?_
  (try dsimp only)
  refine' LeaveO.intro (news'' := (_, listOf [.ref o0, .ref o1, .ref o2, .ref o3, .ref o4, .ref o5].toArray _) :: (ordLed o0 o1 o2 o3 o4 o5 xT xJ k0 k1 k2 k3 k4 k5 k6 k7)) (by k_asm) (by k_asm) ?sub ⟨_, _, rfl, rfl, ?lt0⟩
  case sub => walk_at "all_in"
  case lt0 => walk_at "apart"
end
end
section
section
open PySem.Calls PySem.Spec
local macro_rules | `(tactic| walk_at "call ref") => `(tactic| ktd_call 105 (straight_tells ?k ?_))
local macro_rules | `(tactic| walk_at "call ref") => `(tactic| ktd_call 65 (put_tells ?k ?x0 ?x1 ?x2 ?_))
theorem compile_tells : ∀ {w : World} {mean : ExcName → Option Value} {mg mb : Str → Option Value} {e1 e2 : Env} {cn : Str} {cs : Scope} {a : Addr} {ccd : Value} {cl : List (Str × Addr)} {base h₀ : Heap} {L : Addr} {m : Str → Option Value} {news own : List (Addr × Obj)} {s : Shared} {Q E : Value → Shared → Prop}
    {c : NodeC}
    (hC : Cx (K9 w.params) V9 (looseW V9 [Str.ofString "SnobolError", Str.ofString "plain_count"]) mean mg mb cs ((callerA.deeper e1).deeper e2) base [e2, e1] h₀ L s.heap m news (nodeLed c) own)
    (hret : ∀ l o0 o1 o2 o3 o4 o5 n k0 k1 k2 k3 k4 k5 k6 k7 h' tk', Fr h₀ L h' m → News h₀ L h' (((l, listOf [.ref o0, .ref o1, .ref o2, .ref o3, .ref o4, .ref o5].toArray n) :: (o0, markO k0) :: (o1, oneO k1 k2 k3) :: (o2, setO k4 c.xT) :: (o3, placeO k5 c.xJ) :: (o4, failO k6) :: (o5, doneO k7) :: []) ++ own) → Apart l (nodeLed c) → Apart o0 (nodeLed c) → Apart o1 (nodeLed c) → Apart o2 (nodeLed c) → Apart o3 (nodeLed c) → Apart o4 (nodeLed c) → Apart o5 (nodeLed c) → Apart l own → Apart o0 own → Apart o1 own → Apart o2 own → Apart o3 own → Apart o4 own → Apart o5 own → Dist [(l, listOf [.ref o0, .ref o1, .ref o2, .ref o3, .ref o4, .ref o5].toArray n), (o0, markO k0), (o1, oneO k1 k2 k3), (o2, setO k4 c.xT), (o3, placeO k5 c.xJ), (o4, failO k6), (o5, doneO k7)] → Q (.ref l) { s with heap := h', toks := tk' }),
    wpAny (model PySem.Challenge.rw_xm0959_01.row.prog w) (((callerA.deeper e1).deeper e2).deeper (envX cn cs L a ccd cl)) (call (.ref 112) [.ref c.nd]) Q E s := by
  k_fill
  intro w mean mg mb e1 e2 cn cs a ccd cl base h₀ L m news own s Q E c hC  hret
  obtain ⟨B, F, X, N, hl, hw, off, T, hk⟩ := hC
  refine wpAny_call ?_
  k_dflt (refine' codeO (fun v news' => ∃ l o0 o1 o2 o3 o4 o5 n k0 k1 k2 k3 k4 k5 k6 k7, v = .ref l ∧ news' = (l, listOf [.ref o0, .ref o1, .ref o2, .ref o3, .ref o4, .ref o5].toArray n) :: (o0, markO k0) :: (o1, oneO k1 k2 k3) :: (o2, setO k4 c.xT) :: (o3, placeO k5 c.xJ) :: (o4, failO k6) :: (o5, doneO k7) :: [] ∧ Apart l (nodeLed c) ∧ Apart o0 (nodeLed c) ∧ Apart o1 (nodeLed c) ∧ Apart o2 (nodeLed c) ∧ Apart o3 (nodeLed c) ∧ Apart o4 (nodeLed c) ∧ Apart o5 (nodeLed c) ∧ Dist [(l, listOf [.ref o0, .ref o1, .ref o2, .ref o3, .ref o4, .ref o5].toArray n), (o0, markO k0), (o1, oneO k1 k2 k3), (o2, setO k4 c.xT), (o3, placeO k5 c.xJ), (o4, failO k6), (o5, doneO k7)]) ?k1 ?k2 ?k3 ?k4 ?k5 ?kA ?kF ?kK ?k6 ?k7 ?k8 ?k9 ?kB hl hw (fun p hp q hq e => off p hp q hq e.symm) ?_ ?kR ?c2 ?c3 ?c4 ?c5; walk_at "o_rest")
  case kR => (intro v news' h' tk' F' N' off' hsp; obtain ⟨l, o0, o1, o2, o3, o4, o5, n, k0, k1, k2, k3, k4, k5, k6, k7, rfl, rfl, a0, a1, a2, a3, a4, a5, a6, f0⟩ := hsp; exact hret l o0 o1 o2 o3 o4 o5 n k0 k1 k2 k3 k4 k5 k6 k7 h' tk' F' N' a0 a1 a2 a3 a4 a5 a6 (apart_own off' List.mem_cons_self) (apart_own off' (.tail _ List.mem_cons_self)) (apart_own off' (.tail _ (.tail _ List.mem_cons_self))) (apart_own off' (.tail _ (.tail _ (.tail _ List.mem_cons_self)))) (apart_own off' (.tail _ (.tail _ (.tail _ (.tail _ List.mem_cons_self))))) (apart_own off' (.tail _ (.tail _ (.tail _ (.tail _ (.tail _ List.mem_cons_self)))))) (apart_own off' (.tail _ (.tail _ (.tail _ (.tail _ (.tail _ (.tail _ List.mem_cons_self))))))) f0)
  intro g' L' h' R' hR' FG' F' N' B' X' T' l1
  clear hl hw off hret N F FG' B T X
  k_lt l1
  walk_at "fn"
  (try dsimp only); (try k_fold)
  refine foldA ?_
  intro A9
  k_steps
  refine hR' _ _ ?_
  (try dsimp only)
  refine' LeaveO.intro (news'' := (_, listOf [.ref _, .ref _, .ref _, .ref _, .ref _, .ref _].toArray _) :: (_, markO _) :: (_, oneO _ _ _) :: (_, setO _ c.xT) :: (_, placeO _ c.xJ) :: (_, failO _) :: (_, doneO _) :: []) (by k_asm) (by k_asm) ?sub ⟨_, _, _, _, _, _, _, _, _, _, _, _, _, _, _, _, rfl, rfl, ?lt0, ?lt1, ?lt2, ?lt3, ?lt4, ?lt5, ?lt6, ?ft0⟩
  case sub => walk_at "all_in"
  case lt0 => walk_at "apart"
  case lt1 => walk_at "apart"
  case lt2 => walk_at "apart"
  case lt3 => walk_at "apart"
  case lt4 => walk_at "apart"
  case lt5 => walk_at "apart"
  case lt6 => walk_at "apart"
  case ft0 => walk_at "apart"
end
end
end
section
section
local macro_rules | `(tactic| walk_at "pyIter ref") => `(tactic| (k_search (pyIter _); refine Stop.go ?_))
local macro_rules | `(tactic| walk_at "own_tail") => `(tactic| ((with_reducible show OwnOf _ (logLed _ _) _); refine' OwnOf.tail ?t; (case t => walk_at "apart")))
local macro_rules | `(tactic| walk_at "tail_in") => `(tactic| ((with_reducible show ∀ p ∈ logLed _ _, _); (repeat (first | with_reducible exact sub_refl | refine' sub_tail ?_)); walk_at "shut"))
local macro_rules | `(tactic| walk_at "all_in") => `(tactic| ((repeat (first | exact List.forall_mem_nil _ | ((with_reducible show ∀ p ∈ _ :: _, _); refine' List.forall_mem_cons.mpr ⟨by walk_at "mem", ?_⟩) | walk_at "tail_in" | simp only [List.cons_append, List.nil_append])); walk_at "shut"))
local macro_rules | `(tactic| walk_at "apart") => `(tactic| ((repeat' (first | refine' Apart.consI ?_ ?_ | refine' Dist.consI ?_ ?_ | refine' And.intro ?_ ?_ | exact trivial | with_reducible assumption | exact Ap.mk (Ne.symm (Ap.ne (by with_reducible assumption))) | refine' apart_log (by with_reducible assumption) (by walk_at "ne") (by walk_at "ne") | exact Ap.mk (by walk_at "ne"))); walk_at "shut"))
local macro_rules | `(tactic| walk_at "fn") => `(tactic| skip)
local macro_rules | `(tactic| walk_at "ne") => `(tactic| (refine neN ?_; (try dsimp only); first | exact Ap.ne (by with_reducible assumption) | exact (Ap.ne (by with_reducible assumption)).symm | with_reducible assumption | exact Ne.symm (by with_reducible assumption) | exact Nat.ne_of_lt (by with_reducible assumption) | exact Nat.ne_of_gt (by with_reducible assumption) | exact news_ne (by k_asm) (by walk_at "mem") (by walk_at "mem") tup_list))
section
open PySem.Calls PySem.Spec
theorem mem_swap {α : Type} {a b c : List α} {p : α} (h : p ∈ (a ++ b) ++ c) : p ∈ (a ++ c) ++ b := by
  rcases List.mem_append.mp h with h | h
  · rcases List.mem_append.mp h with h | h
    · exact List.mem_append_left _ (List.mem_append_left _ h)
    · exact List.mem_append_right _ h
  · exact List.mem_append_left _ (List.mem_append_right _ h)
structure MoS where
  es : List LogRow
  vo : Obj
  kvs : List (Str × Value)
  n : Int
  tn : Tok
  ln : Nat
local macro_rules | `(tactic| walk_at "exec For Name Call cons nil") => `(tactic| (k_here; (rename Fr _ _ _ _ => lF'); (with_unfolding_all refine' For_invVF lF' ?k1 ?k2 ?_; (case k1 | k2 => exact rfl); k_whole)))
local macro_rules | `(tactic| walk_at "call ref") => `(tactic| ktd_call 474 (run0_tells ?k ?x0 ?x1 ?x2 ?x3 ?x4 ?x5 ?_))
local macro_rules | `(tactic| walk_at "call ref") => `(tactic| ktd_call 474 (run1_tells ?k ?x0 ?x1 ?x2 ?x3 ?x4 ?x5 ?x6 ?x7 ?x8 ?_))
theorem orders_tells : ∀ {w : World} {mean : ExcName → Option Value} {mg mb : Str → Option Value} {e1 e2 : Env} {cn : Str} {cs : Scope} {a : Addr} {ccd : Value} {cl : List (Str × Addr)} {base h₀ : Heap} {L : Addr} {m : Str → Option Value} {news own : List (Addr × Obj)} {s : Shared} {Q E : Value → Shared → Prop}
    {c : MC} {vo : Obj} {ln : Nat} {tn : Tok}
    (hC : Cx (K9 w.params) V9 (looseW V9 [Str.ofString "SnobolError", Str.ofString "plain_count"]) mean mg mb cs ((callerA.deeper e1).deeper e2) base [e2, e1] h₀ L s.heap m news ((c.ho, instObj 589 c.dh) :: (c.dh, hostO w c (0) tn) :: (c.vd, vo) :: (c.rl, listOf ([] : List Value).toArray c.rn) :: (c.lg, listOf ([] : List Value).toArray ln) :: (c.ol, ordsO c) :: (c.o0, markO c.k0) :: (c.o1, oneO c.k1 c.k2 c.k3) :: (c.o2, setO c.k4 c.xT) :: (c.o3, placeO c.k5 c.xJ) :: (c.o4, failO c.k6) :: (c.o5, doneO c.k7) :: (c.xT, instObj 208 c.dT) :: (c.dT, refTO w c) :: (c.xJ, instObj 208 c.dJ) :: (c.dJ, refJO w c) :: []) own) (hd1 : Dist ((c.ho, instObj 589 c.dh) :: (c.dh, hostO w c (0) tn) :: (c.vd, vo) :: (c.rl, listOf ([] : List Value).toArray c.rn) :: (c.lg, listOf ([] : List Value).toArray ln) :: (c.ol, ordsO c) :: (c.o0, markO c.k0) :: (c.o1, oneO c.k1 c.k2 c.k3) :: (c.o2, setO c.k4 c.xT) :: (c.o3, placeO c.k5 c.xJ) :: (c.o4, failO c.k6) :: (c.o5, doneO c.k7) :: (c.xT, instObj 208 c.dT) :: (c.dT, refTO w c) :: (c.xJ, instObj 208 c.dJ) :: (c.dJ, refJO w c) :: [])) (hS : c.S.length ≤ 400) (hvo : vo.IsDictOf (PySem.strKind PySem.Challenge.rw_xm0959_01.row.prog w) [])
    (hret : ∀ (es : List LogRow) (n2 : Int) (tn2 : Tok) (ln2 : Nat) h' tk', Fr h₀ L h' m → News h₀ L h' ((((c.ho, instObj 589 c.dh) :: (c.dh, hostD w c.vd c.rl c.lg c.q n2 tn2) :: (c.lg, listOf (logRefs es).toArray ln2) :: []) ++ own) ++ logLed c.S es) → es.map (·.2.1) = logOf c.S (c.S.length + 1) → Apart c.lg (logLed c.S es) → (∀ p ∈ own, Apart p.1 (logLed c.S es)) → Q .none { s with heap := h', toks := tk' }),
    wpAny (model PySem.Challenge.rw_xm0959_01.row.prog w) (((callerA.deeper e1).deeper e2).deeper (envX cn cs L a ccd cl)) (call (.ref 544) [.ref c.ol, .str c.S c.tS, .bool false, .ref c.ho]) Q E s := by
  k_fill
  intro w mean mg mb e1 e2 cn cs a ccd cl base h₀ L m news own s Q E c vo ln tn hC hd1 hS hvo hret
  obtain ⟨B, F, X, N, hl, hw, off, T, hk⟩ := hC
  refine wpAny_call ?_
  k_dflt (refine' codeO (fun v news' => ∃ (es : List LogRow) (n2 : Int) (tn2 : Tok) (ln2 : Nat), v = .none ∧ news' = (((c.ho, instObj 589 c.dh) :: (c.dh, hostD w c.vd c.rl c.lg c.q n2 tn2) :: (c.lg, listOf (logRefs es).toArray ln2) :: []) ++ logLed c.S es) ∧ es.map (·.2.1) = logOf c.S (c.S.length + 1) ∧ Apart c.lg (logLed c.S es)) ?k1 ?k2 ?k3 ?k4 ?k5 ?kA ?kF ?kK ?k6 ?k7 ?k8 ?k9 ?kB hl hw (fun p hp q hq e => off p hp q hq e.symm) ?_ ?kR ?c2 ?c3 ?c4 ?c5; walk_at "o_rest")
  case kR => (intro v news' h' tk' F' N' off' hsp; obtain ⟨es, n2, tn2, ln2, rfl, rfl, f1, f2⟩ := hsp; exact hret es n2 tn2 ln2 h' tk' F' (fun p hp => N' p (mem_swap hp)) f1 f2 (fun p hp => Apart.of fun q hq e => off' p hp q (List.mem_append_right _ hq) e.symm))
  intro g' L' h' R' hR' FG' F' N' B' X' T' l1
  clear hl hw off hret N F FG' B T X
  k_lt l1
  walk_at "fn"
  (try dsimp only); (try k_fold)
  refine foldA ?_
  intro A9
  (try dsimp only [nodeLed, ordLed, List.cons_append, List.nil_append] at hd1); (first | (refine facts_of (l := _ :: _) hd1 ?_; clear hd1; k_dflt (repeat ((with_reducible show Facts _ (_ :: _) _); intro hq9)); first | ((with_reducible show Facts _ [] _); refine facts_any ?_) | (refine facts_tail ?_; intro hd1)) | (refine dfacts_of (l := _ :: _) hd1 ?_; clear hd1; k_dflt (repeat (first | ((with_reducible show Facts _ (_ :: _) _); intro hq9) | ((with_reducible show Facts _ [] (DFacts (_ :: _ :: _) _)); intro hq9) | ((with_reducible show DFacts (_ :: _ :: _) _); intro hq9))); refine dfacts_last ?_) | skip)
  k_steps
  refine ⟨?_⟩
  rename IsRange _ _ _ _ _ _ _ _ => rgX
  refine' range_S (σ := MoS) (fun z : MoS => ((c.ho, instObj 589 c.dh) :: (c.dh, hostO w c (z.n) z.tn) :: (c.vd, z.vo) :: (c.rl, listOf ([] : List Value).toArray c.rn) :: (c.lg, listOf (logRefs z.es).toArray z.ln) :: (c.ol, ordsO c) :: (c.o0, markO c.k0) :: (c.o1, oneO c.k1 c.k2 c.k3) :: (c.o2, setO c.k4 c.xT) :: (c.o3, placeO c.k5 c.xJ) :: (c.o4, failO c.k6) :: (c.o5, doneO c.k7) :: (c.xT, instObj 208 c.dT) :: (c.dT, refTO w c) :: (c.xJ, instObj 208 c.dJ) :: (c.dJ, refJO w c) :: logLed c.S z.es) : MoS → List (Addr × Obj)) (fun _ => []) (fun z => [Str.ofString "begin", Str.ofString "how", Str.ofString "way"].contains z) (fun i z => (z.es.map (·.2.1) = logOf c.S i) ∧ z.vo.IsDictOf (PySem.strKind PySem.Challenge.rw_xm0959_01.row.prog w) z.kvs ∧ z.kvs.length ≤ 2 * i ∧ 0 ≤ z.n ∧ z.n ≤ 5 * (i : Int) ∧ Tl (logLed c.S z.es) [c.ho, c.dh, c.vd, c.rl, c.lg, c.xT, c.dT, c.xJ, c.dJ, c.ol, c.o0, c.o1, c.o2, c.o3, c.o4, c.o5]) ⟨[], vo, [], 0, tn, ln⟩ (by rfl) rgX (small_one (by omega) (by omega) (by omega) (by omega)) (n := c.S.length + 1) ((rangeSize_nat _ _).trans (by omega)) (by k_asm) ?kn (List.forall_mem_nil _) ?kp ?turn ?done
  case kn => (refine newsSub (by k_asm) ?_; simp only [ordLed, logLed, logRefs, List.map_nil, List.append_nil, List.cons_append]; walk_at "all_in")
  case kp => exact ⟨rfl, hvo, Nat.le_refl _, Int.le_refl _, by dsimp only; omega, by simp only [Tl, logLed, List.map_nil, Apart, and_self]⟩
  case turn =>
    (try clear rgX)
    intro z i t u h tk I oI R2 hR2 hi hP hI F₁ N₁
    obtain ⟨es, vo', kvs', n', tn', ln'⟩ := z
    obtain ⟨hes, hvo', hkv, hn0, hn1, htl⟩ := hP
    dsimp only at hes hvo' hkv hn0 hn1 htl N₁ hI
    replace hI := Apart.of hI
    (refine facts_of hI ?_; clear hI; k_dflt (repeat ((with_reducible show Facts _ (_ :: _) _); intro hq9)); refine facts_tail ?_; intro hI)
    simp only [Tl, and_true] at htl
    (repeat (have hq9 := And.left htl; replace htl := And.right htl))
    have hlen := logRefs_len hes
    rcases Nat.eq_zero_or_pos (strokes c.S i) with hst | hst
    · k_steps
      refine hR2 _ _ ?_
      (show EndJ _ _ _ _ _ _)
      (try dsimp only)
      refine' EndJ.intro (by k_asm) (by k_asm) ?a ?b ?c (JS.intro ⟨es, vo', kvs', n' + 1 + 1, _, ln'⟩ (List.forall_mem_nil _) ?d ⟨(logOf_no hst).symm ▸ hes, hvo', by dsimp only; omega, by dsimp only; omega, by dsimp only; omega, ?f⟩)
      case a => ((try dsimp only); (try simp only [ordLed, List.cons_append, List.nil_append]); walk_at "all_in")
      case b => walk_at "all_in"
      case c => ((try dsimp only); (try simp only [ordLed, List.cons_append, List.nil_append]); walk_at "offs")
      case d => (intro z _ h3; have hz : z ≠ Str.ofString "begin" ∧ z ≠ Str.ofString "how" ∧ z ≠ Str.ofString "way" := by (simpa using h3)
                 (try dsimp only); rw [if_neg hz.2.2, if_neg hz.2.1, if_neg hz.1]; (show (if _ = true then _ else _) = _); rw [h3]; rfl)
      case f => walk_at "apart"
    · k_steps
      refine hR2 _ _ ?_
      (show EndJ _ _ _ _ _ _)
      (try dsimp only)
      refine' EndJ.intro (by k_asm) (by k_asm) ?a ?b ?c (JS.intro ⟨es ++ [(_, .T i (i + strokes c.S i), _, _), (_, .J (i + strokes c.S i), _, _)], _, _, n' + 1 + 1 + 1 + 1 + 1, _, ln' + 1 + 1⟩ (List.forall_mem_nil _) ?d ⟨?e, ?g, ?h, by dsimp only; omega, by dsimp only; omega, ?f⟩)
      case a => ((try dsimp only); (try simp only [ordLed, List.cons_append, List.nil_append, ← logRefs_two]); (iterate 16 (refine' List.forall_mem_cons.mpr ⟨by walk_at "mem", ?_⟩)); refine' log_two ?r1 ?r2 ?r3; (case r1 => (repeat (first | with_reducible exact sub_refl | refine' sub_tail ?_))); (case r2 => walk_at "mem"); (case r3 => walk_at "mem"))
      case g => k_asm
      case h => (dsimp only; omega)
      case e => (rw [logOf_yes hst, ← hes]; simp)
      case b => walk_at "all_in"
      case c => ((try dsimp only); (try simp only [ordLed, List.cons_append, List.nil_append]); walk_at "offs")
      case d => (intro z _ h3; have hz : z ≠ Str.ofString "begin" ∧ z ≠ Str.ofString "how" ∧ z ≠ Str.ofString "way" := by (simpa using h3)
                 (try dsimp only); rw [if_neg hz.2.2, if_neg hz.2.1, if_neg hz.1]; (show (if _ = true then _ else _) = _); rw [h3]; rfl)
      case f => walk_at "apart"
  case done =>
    (try clear rgX)
    intro z u h tk hP F₁ N₁
    obtain ⟨es, vo', kvs', n', tn', ln'⟩ := z
    obtain ⟨hes, hvo', hkv, hn0, hn1, htl⟩ := hP
    dsimp only at hes hvo' hkv hn0 hn1 htl N₁
    (try simp only [ordLed, List.cons_append, List.nil_append] at N₁)
    simp only [Tl, and_true] at htl
    (repeat (have hq9 := And.left htl; replace htl := And.right htl))
    k_steps
    refine hR' _ _ ?_
    (try dsimp only)
    refine' LeaveO.intro (news'' := (((c.ho, instObj 589 c.dh) :: (c.dh, hostD w c.vd c.rl c.lg c.q n' tn') :: (c.lg, listOf (logRefs es).toArray ln') :: []) ++ logLed c.S es)) (by k_asm) (by k_asm) ?sub ⟨es, n', tn', ln', rfl, rfl, hes, ?ap⟩
    case sub => (simp only [List.cons_append, List.nil_append]; walk_at "all_in")
    case ap => with_reducible assumption
end
section
open PySem.Calls PySem.Spec
theorem strs_push {vs : List Value} {ms : List Str} {x : Str} {t : Tok} (h : StrsAre vs ms) : StrsAre (vs ++ [.str x t]) (ms ++ [x]) := by
  induction h with
  | nil => exact .cons _ _ .nil
  | cons y t _ ih => exact .cons y t ih
theorem lm_pack {h₀ h : Heap} {L fl : Addr} {l : List (Addr × Obj)} {vs : List Value} {ms : List Str} {x : Str} {t : Tok} {fn i : Nat} (N9 : News h₀ L h l) (hs : StrsAre vs ms) (hl : vs.length ≤ i) (hm : (fl, listOf (vs.toArray.push (.str x t)) (fn + 1)) ∈ l) :
    ∃ vs2, StrsAre vs2 (ms ++ [x]) ∧ vs2.length ≤ i + 1 ∧ (fl, listOf vs2.toArray (fn + 1)) ∈ l := by
  refine ⟨vs ++ [.str x t], strs_push hs, by simp only [List.length_append, List.length_cons, List.length_nil]; omega, ?_⟩
  rw [List.push_toArray] at hm
  exact hm
theorem tl_in {α : Type} {a b c d : α} {l : List α} (h : d ∈ l) : ∀ p ∈ a :: b :: c :: d :: l, p ∈ a :: b :: c :: l := fun p hp => by
  simp only [List.mem_cons] at hp ⊢
  rcases hp with rfl | rfl | rfl | rfl | hp
  · exact .inl rfl
  · exact .inr (.inl rfl)
  · exact .inr (.inr (.inl rfl))
  · exact .inr (.inr (.inr h))
  · exact .inr (.inr (.inr hp))
noncomputable abbrev spliceOut (S : Str) (a b : Int) : Str := Txt.slice S none (some a) ++ Str.ofString "" ++ Txt.slice S (some b) none
noncomputable def lmStep (S : Str) (p : List Str × Str) : LogE → List Str × Str
  | .T b e => (p.1, Txt.slice S (some (b : Int)) (some (e : Int)))
  | .J e => (p.1 ++ [spliceOut S ((e : Int) - (p.2.length : Int)) (e : Int)], p.2)
noncomputable def addrOf {d : Addr} {l : List (Addr × Obj)} (_ : Apart d l) : Addr := d
noncomputable def movesOf (S : Str) : List Str := ((logOf S (S.length + 1)).foldl (lmStep S) ([], Str.ofString "")).1
structure LmS where
  vs : List Value
  ms : List Str
  text : Str
  tk : Tok
  fn : Nat
local macro_rules | `(tactic| walk_at "gen_tok") => `(tactic| ((try dsimp only); (with_reducible refine gen_tok ?_); intro tk'))
local macro_rules | `(tactic| walk_at "exec For Tuple Attribute cons nil") => `(tactic| (k_here; (rename Fr _ _ _ _ => lF'); (with_unfolding_all refine' For_invTF lF' ?_ ?hs; (case hs => exact fun _ => rfl); k_whole)))
local macro_rules | `(tactic| walk_at "call ref") => `(tactic| ktd_call 112 (compile_tells (c := (NodeC.mk _ _ _ _ _ _ _ _ _ _ _ _ _ _ _)) ?k ?_))
local macro_rules | `(tactic| walk_at "call ref") => `(tactic| ktn_call 544 (orders_tells (c := (MC.mk _ _ _ _ _ _ _ _ _ _ _ _ _ _ _ _ _ _ _ _ _ _ _ _ _ _ _ _ _ _ _)) (own := [(_, listOf ([] : List Value).toArray _)]) ?k ?x0 ?x1 ?x2 ?_))
theorem moves_tells : ∀ {w : World} {mean : ExcName → Option Value} {mg mb : Str → Option Value} {cn : Str} {cs : Scope} {a : Addr} {ccd : Value} {cl : List (Str × Addr)} {base h₀ : Heap} {L : Addr} {m : Str → Option Value} {news own : List (Addr × Obj)} {s : Shared} {Q E : Value → Shared → Prop}
    {S : Str} {tS : Tok}
    (hC : Cx (K9 w.params) V9 (looseW V9 [Str.ofString "SnobolError", Str.ofString "plain_count"]) mean mg mb cs callerA base [] h₀ L s.heap m news ([] : List (Addr × Obj)) own) (hS : S.length ≤ 400)
    (hret : ∀ (l : Addr) (vs : List Value) (n : Nat) h' tk', Fr h₀ L h' m → News h₀ L h' ([(l, listOf vs.toArray n)] ++ own) → StrsAre vs (movesOf S) → Apart l own → Q (.ref l) { s with heap := h', toks := tk' }),
    wpAny (model PySem.Challenge.rw_xm0959_01.row.prog w) (callerA.deeper (envX cn cs L a ccd cl)) (call (.ref 614) [.str S tS]) Q E s := by
  k_fill
  intro w mean mg mb  cn cs a ccd cl base h₀ L m news own s Q E S tS hC hS hret
  obtain ⟨B, F, X, N, hl, hw, off, T, hk⟩ := hC
  refine wpAny_call ?_
  k_dflt (refine' codeO (fun v news' => ∃ (l : Addr) (vs : List Value) (n : Nat), v = .ref l ∧ news' = [(l, listOf vs.toArray n)] ∧ StrsAre vs (movesOf S)) ?k1 ?k2 ?k3 ?k4 ?k5 ?kA ?kF ?kK ?k6 ?k7 ?k8 ?k9 ?kB hl hw (fun p hp q hq e => off p hp q hq e.symm) ?_ ?kR ?c2 ?c3 ?c4 ?c5; walk_at "o_rest")
  case kR => (intro v news' h' tk' F' N' off' hsp; obtain ⟨l, vs, n, rfl, rfl, f1⟩ := hsp; exact hret l vs n h' tk' F' N' f1 (apart_own off' List.mem_cons_self))
  intro g' L' h' R' hR' FG' F' N' B' X' T' l1
  clear hl hw off hret N F FG' B T X
  walk_at "fn"
  (try dsimp only); (try k_fold)
  refine foldA ?_
  intro A9
  k_steps
  refine ⟨?_⟩
  rename List LogRow => es
  rename List.map _ _ = logOf S _ => hes
  rename Apart _ (logLed S _) => hfl
  revert hfl
  rename Apart _ (logLed S _) => hlg
  intro hfl
  obtain ⟨fl, hq1⟩ : ∃ x, x = addrOf hfl := ⟨_, rfl⟩
  obtain ⟨lg, hq2⟩ : ∃ x, x = addrOf hlg := ⟨_, rfl⟩
  simp only [addrOf] at hq1 hq2
  subst hq1 hq2
  refine' listT_S (σ := LmS) (its := logRefs es) (fun c => (fl, listOf c.vs.toArray c.fn) :: logLed S es) (fun c => [(Str.ofString "text", .str c.text c.tk)]) (fun z => [Str.ofString "name", Str.ofString "value"].contains z) (fun i c => StrsAre c.vs c.ms ∧ c.vs.length ≤ i ∧ c.text.length ≤ S.length ∧ (c.ms, c.text) = ((es.map (·.2.1)).take i).foldl (lmStep S) ([], Str.ofString "")) ⟨[], [], Str.ofString "", _, _⟩ (by rfl) (by k_asm) ?kn ?kl ?kk ?kp ?turn ?done
  case kk => (refine List.forall_mem_cons.mpr ⟨?_, List.forall_mem_nil _⟩; dsimp only; rfl)
  case kn => (refine newsSub (by k_asm) ?_; (try dsimp only); walk_at "all_in")
  case kl => ((try dsimp only); walk_at "alls")
  case kp => exact ⟨StrsAre.nil, Nat.le_refl _, Nat.zero_le _, rfl⟩
  case turn =>
    intro c i v u s₁ I oI ol R2 hR2 hv hP hI hl hIl F₁ N₁
    obtain ⟨vs, ms, text, tkn, fn⟩ := c
    obtain ⟨hvs, hvl, htx, hst⟩ := hP
    dsimp only at hvs hvl htx hst F₁ N₁ hI hl
    replace hI := Apart.of hI
    replace hl := Apart.of hl
    (try simp only [Apart] at hI hl)
    obtain ⟨hI1, hI2⟩ := hI
    obtain ⟨hl1, hl2⟩ := hl
    have hIl' : Ap I lg := ⟨hIl⟩
    have hlen := logRefs_len hes
    have hel : es.length ≤ 2 * (S.length + 1) := by simpa [logRefs] using hlen
    have hi : i < es.length := by
      rcases Nat.lt_or_ge i es.length with q | q
      · exact q
      · rw [List.getElem?_eq_none (by simpa [logRefs] using q)] at hv
        cases hv
    obtain ⟨x, hx⟩ : ∃ x, es[i]? = some x := ⟨es[i], by simp [hi]⟩
    have hmem : (x.1, x.2.1.obj S x.2.2.1 x.2.2.2) ∈ logLed S es := List.mem_map.mpr ⟨x, List.mem_of_getElem? hx, rfl⟩
    have hvx : v = .ref x.1 := by
      have q : (logRefs es)[i]? = some (.ref x.1) := by simp [logRefs, hx]
      rw [hv] at q
      exact Option.some.inj q
    subst hvx
    have htake : (es.map (·.2.1)).take (i + 1) = (es.map (·.2.1)).take i ++ [x.2.1] := by
      rw [List.take_add_one]
      simp [hx]
    have hnext : ((es.map (·.2.1)).take (i + 1)).foldl (lmStep S) ([], Str.ofString "") = lmStep S (ms, text) x.2.1 := by
      rw [htake, List.foldl_append, ← hst]
      rfl
    obtain ⟨a, e, c1, c2⟩ := x
    dsimp only at hmem hnext
    have hax : Ap a fl := ⟨hfl.alls _ hmem⟩
    have haI : Ap a I := ⟨hI2.alls _ hmem⟩
    have hal : Ap a lg := ⟨hl2.alls _ hmem⟩
    replace N₁ := newsSub (b := (I, oI) :: (lg, ol) :: (fl, listOf vs.toArray fn) :: (a, e.obj S c1 c2) :: logLed S es) N₁ (tl_in hmem)
    cases e with
    | T b e =>
      dsimp only [LogE.obj] at N₁ hnext
      (try dsimp only)
      k_steps
      refine hR2 _ _ ⟨rfl, ?_⟩
      (try dsimp only)
      refine' EndJ.intro (by k_asm) (by k_asm) ?a ?b ?c (JS.intro ⟨vs, ms, Txt.slice S (some (b : Int)) (some (e : Int)), _, fn⟩ ?k ?d ⟨hvs, by dsimp only; omega, by dsimp only; exact Txt.slice_le _ _ _, hnext.symm⟩)
      case k => (refine List.forall_mem_cons.mpr ⟨?_, List.forall_mem_nil _⟩; dsimp only; rfl)
      case a => ((try dsimp only); walk_at "all_in")
      case b => walk_at "all_in"
      case c => ((try dsimp only); walk_at "offs")
      case d => (intro z h2 h3; have hz : z ≠ Str.ofString "text" := h2 _ List.mem_cons_self; have hw : z ≠ Str.ofString "name" ∧ z ≠ Str.ofString "value" := by (simpa using h3)
                 (try dsimp only); rw [if_neg hz, if_neg hw.2, if_neg hw.1]; (show (if z = Str.ofString "text" then _ else (if _ = true then _ else _)) = _); rw [if_neg hz, h3]; rfl)
    | J e =>
      dsimp only [LogE.obj] at N₁ hnext
      (try dsimp only)
      k_steps
      rename News _ _ _ _ => N9
      obtain ⟨vs2, g1, g2, g3⟩ := lm_pack (x := spliceOut S ((e : Int) - (text.length : Int)) (e : Int)) (fl := fl) (fn := fn) N9 hvs hvl (by walk_at "mem")
      refine hR2 _ _ ⟨rfl, ?_⟩
      (try dsimp only)
      refine' EndJ.intro (by k_asm) N9 ?a ?b ?c (JS.intro ⟨vs2, ms ++ [spliceOut S ((e : Int) - (text.length : Int)) (e : Int)], text, tkn, fn + 1⟩ ?k ?d ⟨g1, g2, htx, hnext.symm⟩)
      case k => (refine List.forall_mem_cons.mpr ⟨?_, List.forall_mem_nil _⟩; dsimp only; rfl)
      case a => ((try dsimp only); refine List.forall_mem_cons.mpr ⟨g3, ?_⟩; walk_at "all_in")
      case b => walk_at "all_in"
      case c => ((try dsimp only); walk_at "offs")
      case d => (intro z h2 h3; have hz : z ≠ Str.ofString "text" := h2 _ List.mem_cons_self; have hw : z ≠ Str.ofString "name" ∧ z ≠ Str.ofString "value" := by (simpa using h3)
                 (try dsimp only); rw [if_neg hw.2, if_neg hw.1]; (show (if z = Str.ofString "text" then _ else (if _ = true then _ else _)) = _); rw [if_neg hz, h3]; rfl)
  case done =>
    intro c u h tk hP F₁ N₁
    obtain ⟨vs, ms, text, tkn, fn⟩ := c
    obtain ⟨hvs, hvl, htx, hst⟩ := hP
    dsimp only at hvs hvl htx hst F₁ N₁
    have hms : ms = movesOf S := by
      have q : (logRefs es).length = (es.map (·.2.1)).length := by simp [logRefs]
      rw [q, List.take_length, hes] at hst
      exact congrArg Prod.fst hst
    subst hms
    k_steps
    refine hR' _ _ ?_
    (try dsimp only)
    refine' LeaveO.intro (news'' := [(fl, listOf vs.toArray fn)]) (by k_asm) (by k_asm) ?sub ⟨fl, vs, fn, rfl, rfl, hvs⟩
    case sub => walk_at "all_in"
end
section
open PySem.Calls PySem.Spec
noncomputable abbrev intXor (a b : Int) : Int := Builtin.bitXor a b
noncomputable def sumOf (S : Str) : Int := (Txt.split S (Str.ofString ",")).foldl (fun a r => intXor a (r.length : Int)) 0
theorem strs_at {vs : List Value} {ss : List Str} (h : StrsAre vs ss) : ∀ {i : Nat} {v : Value}, vs[i]? = some v → ∃ x t, v = .str x t ∧ ss[i]? = some x := by
  induction h with
  | nil => intro i v hv; simp at hv
  | cons y t _ ih =>
    intro i v hv
    cases i with
    | zero => exact ⟨y, t, by simpa using hv.symm, by simp⟩
    | succ i => simpa using ih (by simpa using hv)
local macro_rules | `(tactic| walk_at "exec For Name Call cons nil") => `(tactic| (k_here; (rename Fr _ _ _ _ => lF'); (with_unfolding_all refine' For_invTF lF' ?_ ?hs; (case hs => exact fun _ => rfl); k_whole)))
theorem sum_tells : ∀ {w : World} {mean : ExcName → Option Value} {mg mb : Str → Option Value} {cn : Str} {cs : Scope} {a : Addr} {ccd : Value} {cl : List (Str × Addr)} {base h₀ : Heap} {L : Addr} {m : Str → Option Value} {news own : List (Addr × Obj)} {s : Shared} {Q E : Value → Shared → Prop}
    {S : Str} {tS : Tok}
    (hC : Cx (K9 w.params) V9 (looseW V9 [Str.ofString "SnobolError", Str.ofString "plain_count"]) mean mg mb cs callerA base [] h₀ L s.heap m news ([] : List (Addr × Obj)) own) (hS : S.length ≤ 400)
    (hret : ∀ t h' tk', Fr h₀ L h' m → News h₀ L h' ([] ++ own) → Q (.int (sumOf S) t) { s with heap := h', toks := tk' }),
    wpAny (model PySem.Challenge.rw_xm0959_01.row.prog w) (callerA.deeper (envX cn cs L a ccd cl)) (call (.ref 621) [.str S tS]) Q E s := by
  k_fill
  intro w mean mg mb  cn cs a ccd cl base h₀ L m news own s Q E S tS hC hS hret
  obtain ⟨B, F, X, N, hl, hw, off, T, hk⟩ := hC
  refine wpAny_call ?_
  k_dflt (refine' codeO (fun v news' => ∃ t, v = .int (sumOf S) t ∧ news' = []) ?k1 ?k2 ?k3 ?k4 ?k5 ?kA ?kF ?kK ?k6 ?k7 ?k8 ?k9 ?kB hl hw (fun p hp q hq e => off p hp q hq e.symm) ?_ ?kR ?c2 ?c3 ?c4 ?c5; walk_at "o_rest")
  case kR => (intro v news' h' tk' F' N' off' hsp; obtain ⟨t, rfl, rfl⟩ := hsp; exact hret t h' tk' F' N')
  intro g' L' h' R' hR' FG' F' N' B' X' T' l1
  clear hl hw off hret N F FG' B T X
  walk_at "fn"
  (try dsimp only); (try k_fold)
  refine foldA ?_
  intro A9
  k_steps
  refine ⟨?_⟩
  rename List (Str × Tok) => lq
  rename StrsAre _ _ => hsa
  rename List.map _ _ = Txt.split _ _ => hsp
  have hsl : ∀ a ∈ lq.map (fun x => x.fst), a.length ≤ S.length := by assumption
  refine' listT_S (σ := Int × Tok) (its := strValues lq) (fun _ => []) (fun c => [(Str.ofString "found", .int c.1 c.2)]) (fun z => [Str.ofString "row"].contains z) (fun i c => c.1 = ((lq.map (·.1)).take i).foldl (fun a r => intXor a (r.length : Int)) 0) ⟨0, _⟩ (by rfl) (by k_asm) (by k_asm) (List.forall_mem_nil _) ?kk ?kp ?turn ?done
  case kk => (refine List.forall_mem_cons.mpr ⟨?_, List.forall_mem_nil _⟩; dsimp only; rfl)
  case kp => exact rfl
  case turn =>
    intro c i v u s₁ I oI ol R2 hR2 hv hP hI hl hIl F₁ N₁
    obtain ⟨fd, tkn⟩ := c
    have hst := hP
    dsimp only at hst F₁ N₁
    obtain ⟨x, t, hvx, hx⟩ := strs_at hsa hv
    subst hvx
    have hnext : ((lq.map (·.1)).take (i + 1)).foldl (fun a r => intXor a (r.length : Int)) 0 = intXor fd (x.length : Int) := by
      rw [List.take_add_one, hx, List.foldl_append, ← hst]
      rfl
    have hxl : x.length ≤ 400 := Nat.le_trans (hsl x (List.mem_of_getElem? hx)) hS
    (try dsimp only)
    k_steps
    refine hR2 _ _ ⟨rfl, ?_⟩
    (try dsimp only)
    refine' EndJ.intro (by k_asm) (by k_asm) (List.forall_mem_nil _) ?b (fun _ _ _ h => nomatch h) (JS.intro ⟨intXor fd (x.length : Int), _⟩ ?k ?d hnext.symm)
    case k => (refine List.forall_mem_cons.mpr ⟨?_, List.forall_mem_nil _⟩; dsimp only; rfl)
    case b => walk_at "all_in"
    case d => (intro z h2 h3; have hz : z ≠ Str.ofString "found" := h2 _ List.mem_cons_self; have hw : z ≠ Str.ofString "row" := by (simpa using h3)
               (try dsimp only); rw [if_neg hz, if_neg hw]; (show (if z = Str.ofString "found" then _ else (if _ = true then _ else _)) = _); rw [if_neg hz, h3]; (try (show (if z = Str.ofString "found" then _ else _) = _)); rfl)
  case done =>
    intro c u h tk hP F₁ N₁
    obtain ⟨fd, tkn⟩ := c
    have hst := hP
    dsimp only at hst F₁ N₁
    have hms : fd = sumOf S := by
      rw [List.take_of_length_le (by rw [hsa.length]; exact Nat.le_refl _), hsp] at hst
      exact hst
    subst hms
    k_steps
    refine hR' _ _ ?_
    (try dsimp only)
    refine' LeaveO.intro (news'' := []) (by k_asm) (by k_asm) (List.forall_mem_nil _) ⟨_, rfl, rfl⟩
end
section
open PySem.Calls PySem.Spec
noncomputable def encS : List Nat → Str
  | [] => Str.ofString ""
  | n :: r => ⟨(List.replicate n 49 ++ [44]).toArray ++ (encS r).cps⟩
noncomputable def digs : List Nat := [0, 1, 2, 3]
noncomputable def allRs : List (List Nat) := digs.map (fun a => [a]) ++ digs.flatMap (fun a => digs.map (fun b => [a, b])) ++ digs.flatMap (fun a => digs.flatMap (fun b => digs.map (fun c => [a, b, c])))
noncomputable def IsSub (S : Str) : Prop := ∃ rs, rs ∈ allRs ∧ S = encS rs
/-- the row's end loses strokes -/
noncomputable def movesR : List Nat → List (List Nat)
  | [] => []
  | n :: r => (List.range n).map (fun b => b :: r) ++ (movesR r).map (fun x => n :: x)
noncomputable def sumR (rs : List Nat) : Int := (rs ++ [0]).foldl (fun (a : Int) (r : Nat) => intXor a (Int.ofNat r)) 0
noncomputable def goodOf (S : Str) : List Str := (movesOf S).filter (fun m => decide (sumOf m = 0))
noncomputable def powRows (S : Str) (p : Int) : List Str := (Txt.split S (Str.ofString ",")).filter (fun r => decide (((r.length : Int).fdiv p).fmod 2 = 1))
noncomputable def powOf (S : Str) : Int := if 1 < sumOf S then 2 else 1
theorem p1 : allRs.all (fun rs => decide ((Txt.split (encS rs) (Str.ofString ",")).map (·.length) = rs ++ [0])) = true := by decide +kernel
theorem p2 : allRs.all (fun rs => decide (movesOf (encS rs) = (movesR rs).map encS)) = true := by decide +kernel
theorem p3 : allRs.all (fun rs => decide (Txt.count (encS rs) (Str.ofString "1") = (rs.sum : Int))) = true := by decide +kernel
theorem p4 : allRs.all (fun rs => decide ((encS rs).length ≤ 12)) = true := by decide +kernel
noncomputable def okR (rs : List Nat) : Bool :=
  let g := (movesR rs).filter (fun m => decide (sumR m = 0))
  decide ((movesR rs).length = rs.sum) && decide (movesR rs).Nodup && decide (0 ≤ sumR rs) && (if sumR rs = 0 then g.isEmpty else
    !g.isEmpty && decide (g.length = ((rs ++ [0]).filter (fun r => decide (((Int.ofNat r).fdiv (if 1 < sumR rs then 2 else 1)).fmod 2 = 1))).length))
    && (movesR rs).all (fun m => allRs.contains m && decide (m.sum < rs.sum)) && (if rs.sum = 0 then decide (sumR rs = 0) else true)
theorem p5 : allRs.all okR = true := by decide +kernel
theorem lens {rs : List Nat} (h : rs ∈ allRs) : (Txt.split (encS rs) (Str.ofString ",")).map (·.length) = rs ++ [0] := of_decide_eq_true (List.all_eq_true.mp p1 rs h)
theorem sum_enc {rs : List Nat} (h : rs ∈ allRs) : sumOf (encS rs) = sumR rs := by
  unfold sumOf sumR
  rw [← lens h, List.foldl_map]
  rfl
theorem enc_inj {a b : List Nat} (ha : a ∈ allRs) (hb : b ∈ allRs) (h : encS a = encS b) : a = b := by
  have := (lens ha).symm.trans (h ▸ lens hb)
  exact List.append_cancel_right this
theorem ok_at {rs : List Nat} (h : rs ∈ allRs) : okR rs = true := List.all_eq_true.mp p5 rs h
theorem count_enc {rs : List Nat} (h : rs ∈ allRs) : Txt.count (encS rs) (Str.ofString "1") = (rs.sum : Int) := of_decide_eq_true (List.all_eq_true.mp p3 rs h)
theorem moves_enc {rs : List Nat} (h : rs ∈ allRs) : movesOf (encS rs) = (movesR rs).map encS := of_decide_eq_true (List.all_eq_true.mp p2 rs h)
theorem len_enc {rs : List Nat} (h : rs ∈ allRs) : (encS rs).length ≤ 12 := of_decide_eq_true (List.all_eq_true.mp p4 rs h)
theorem moves_in {rs : List Nat} (h : rs ∈ allRs) : ∀ m ∈ movesR rs, m ∈ allRs ∧ m.sum < rs.sum := by
  have := ok_at h
  simp only [okR, Bool.and_eq_true, List.all_eq_true, decide_eq_true_eq] at this
  intro m hm
  have := this.1.2 m hm
  exact ⟨by simpa using this.1, this.2⟩
theorem good_enc {rs : List Nat} (h : rs ∈ allRs) : goodOf (encS rs) = ((movesR rs).filter (fun m => decide (sumR m = 0))).map encS := by
  unfold goodOf
  rw [moves_enc h, List.filter_map]
  congr 1
  refine List.filter_congr fun m hm => ?_
  show decide (sumOf (encS m) = 0) = _
  rw [sum_enc (moves_in h m hm).1]
theorem pow_enc {rs : List Nat} (h : rs ∈ allRs) : (powRows (encS rs) (powOf (encS rs))).length = ((rs ++ [0]).filter (fun r => decide (((Int.ofNat r).fdiv (if 1 < sumR rs then 2 else 1)).fmod 2 = 1))).length := by
  unfold powRows powOf
  rw [sum_enc h, ← lens h, List.filter_map, List.length_map]
  rfl
section
variable {S : Str} (h : IsSub S)
include h
theorem s_len : S.length ≤ 12 := by obtain ⟨rs, h, rfl⟩ := h; exact len_enc h
theorem s_moves : ((movesOf S).length : Int) = Txt.count S (Str.ofString "1") := by
  obtain ⟨rs, h, rfl⟩ := h
  have := ok_at h
  simp only [okR, Bool.and_eq_true, decide_eq_true_eq] at this
  rw [moves_enc h, count_enc h, List.length_map, this.1.1.1.1.1]
theorem s_nodup : (movesOf S).Nodup := by
  obtain ⟨rs, h, rfl⟩ := h
  have := ok_at h
  simp only [okR, Bool.and_eq_true, decide_eq_true_eq] at this
  rw [moves_enc h]
  exact List.pairwise_map.mpr (List.Pairwise.imp_of_mem (fun ha hb hn e => hn (enc_inj (moves_in h _ ha).1 (moves_in h _ hb).1 e)) this.1.1.1.1.2)
theorem s_pos : 0 ≤ sumOf S := by
  obtain ⟨rs, h, rfl⟩ := h
  have := ok_at h
  simp only [okR, Bool.and_eq_true, decide_eq_true_eq] at this
  rw [sum_enc h]
  exact this.1.1.1.2
theorem s_zero (hz : sumOf S = 0) : goodOf S = [] := by
  obtain ⟨rs, h, rfl⟩ := h
  have := ok_at h
  rw [sum_enc h] at hz
  simp only [okR, Bool.and_eq_true, decide_eq_true_eq, if_pos hz] at this
  rw [good_enc h, List.isEmpty_iff.mp this.1.1.2]
  rfl
theorem s_good (hz : sumOf S ≠ 0) : goodOf S ≠ [] ∧ (goodOf S).length = (powRows S (powOf S)).length := by
  obtain ⟨rs, h, rfl⟩ := h
  have := ok_at h
  rw [sum_enc h] at hz
  simp only [okR, Bool.and_eq_true, decide_eq_true_eq, if_neg hz] at this
  rw [good_enc h, pow_enc h, List.length_map]
  refine ⟨fun e => ?_, this.1.1.2.2⟩
  have e := List.map_eq_nil_iff.mp e
  rw [e] at this
  exact absurd this.1.1.2.1 (by simp)
theorem s_next {m : Str} (hm : m ∈ movesOf S) : IsSub m ∧ Txt.count m (Str.ofString "1") < Txt.count S (Str.ofString "1") := by
  obtain ⟨rs, h, rfl⟩ := h
  rw [moves_enc h] at hm
  obtain ⟨x, hx, rfl⟩ := List.mem_map.mp hm
  have := moves_in h x hx
  rw [count_enc h, count_enc this.1]
  exact ⟨⟨x, this.1, rfl⟩, by exact_mod_cast this.2⟩
theorem s_none (hz : Txt.count S (Str.ofString "1") = 0) : sumOf S = 0 := by
  obtain ⟨rs, h, rfl⟩ := h
  have := ok_at h
  rw [count_enc h] at hz
  have hz' : rs.sum = 0 := by exact_mod_cast hz
  simp only [okR, Bool.and_eq_true, decide_eq_true_eq, if_pos hz'] at this
  rw [sum_enc h]
  exact this.2
end
end
section
noncomputable def rowS (d : Nat) : Str := ⟨(List.replicate d 49 ++ [44]).toArray⟩
theorem pow4_ne (k : Nat) : (4 : Int) ^ k ≠ 0 := by
  have : (0 : Int) < 4 ^ k := Int.pow_pos (by decide)
  omega
theorem pow4_small {i n : Nat} (h : i < n) (h3 : n ≤ 3) : ((4 : Int) ^ (0 + (i : Int)).toNat).natAbs < 1073741824 := by
  have e : (0 + (i : Int)).toNat = i := by omega
  rw [e]
  match i, (by omega : i < 3) with
  | 0, _ => decide
  | 1, _ => decide
  | 2, _ => decide
theorem fmod4 (a : Int) : a.fmod 4 = 0 ∨ a.fmod 4 = 1 ∨ a.fmod 4 = 2 ∨ a.fmod 4 = 3 := by
  have h := Int.fmod_nonneg_of_pos a (b := 4) (by decide)
  have h' := Int.fmod_lt_of_pos a (b := 4) (by decide)
  omega
theorem row_made (a : Int) : Txt.mul (Str.ofString "1") (a.fmod 4) ++ Str.ofString "," = rowS (a.fmod 4).toNat ∧ (a.fmod 4).toNat < 4 := by
  rcases fmod4 a with h | h | h | h <;> rw [h] <;> decide +kernel
theorem row_room (a : Int) : (Txt.mul (Str.ofString "1") (a.fmod 4)).length + (Str.ofString ",").length ≤ sizeLine := by
  refine Nat.le_trans (?_ : _ ≤ 4) (by rw [sizeLine_eq]; omega)
  rcases fmod4 a with h | h | h | h <;> rw [h] <;> decide +kernel
theorem row_mul (a : Int) : MulOk (Str.ofString "1") (a.fmod 4) := by
  rcases fmod4 a with h | h | h | h <;> rw [h] <;> (refine ⟨?_, ?_, ?_⟩ <;> decide +kernel)
theorem in_all {ds : List Nat} {n : Nat} (h : ds.length = n) (h1 : 1 ≤ n) (h3 : n ≤ 3) (hd : ∀ d ∈ ds, d < 4) : ds ∈ allRs := by
  have dg : ∀ d, d < 4 → d ∈ digs := by decide
  match ds, h, hd with
  | [], h, _ => simp at h; omega
  | [a], _, hd =>
    refine List.mem_append_left _ (List.mem_append_left _ (List.mem_map.mpr ⟨a, dg a (hd a (by simp)), rfl⟩))
  | [a, b], _, hd =>
    refine List.mem_append_left _ (List.mem_append_right _ (List.mem_flatMap.mpr ⟨a, dg a (hd a (by simp)), List.mem_map.mpr ⟨b, dg b (hd b (by simp)), rfl⟩⟩))
  | [a, b, c], _, hd =>
    refine List.mem_append_right _ (List.mem_flatMap.mpr ⟨a, dg a (hd a (by simp)), List.mem_flatMap.mpr ⟨b, dg b (hd b (by simp)), List.mem_map.mpr ⟨c, dg c (hd c (by simp)), rfl⟩⟩⟩)
  | a :: b :: c :: d :: r, h, _ => simp at h; omega
theorem p6 : allRs.all (fun rs => JoinOk (Str.ofString "") (rs.map rowS) && decide (Txt.join (Str.ofString "") (rs.map rowS) = encS rs)) = true := by decide +kernel
theorem strs_list {vs : List Value} {ss : List Str} (h : StrsAre vs ss) : ∃ l : List (Str × Tok), vs = strValues l ∧ l.map (fun x => x.1) = ss := by
  induction h with
  | nil => exact ⟨[], rfl, rfl⟩
  | cons y t _ ih =>
    obtain ⟨l, rfl, rfl⟩ := ih
    exact ⟨(y, t) :: l, rfl, rfl⟩
theorem join_rows {prog : Program} {w : World} {A : Around} {E : Value → Shared → Prop} {s : Shared} {t : Tok} {Q : Value → Shared → Prop} {D : Addr} {ys : List Value} {ds : List Nat} {n : Nat} (hl : s.heap.IsList D ys.toArray) (hs : StrsAre ys (ds.map rowS)) (h : ds.length = n) (h1 : 1 ≤ n) (h3 : n ≤ 3) (hd : ∀ d ∈ ds, d < 4)
    (hq : ∀ S t' k, IsSub S → S.length ≤ 400 → Q (.str S t') { s with toks := k }) : wpAny (model prog w) A (call (.builtin "str.join") [.str (Str.ofString "") t, .ref D]) Q E s := by
  obtain ⟨l, rfl, e⟩ := strs_list hs
  have hm := in_all h h1 h3 hd
  have := List.all_eq_true.mp p6 ds hm
  simp only [Bool.and_eq_true, decide_eq_true_eq] at this
  refine SC.join hl e this.1 fun t' k => ?_
  rw [this.2]
  exact hq _ t' k ⟨ds, hm, rfl⟩ (Nat.le_trans (len_enc hm) (by omega))
theorem rows_more {ys : List Value} {ds : List Nat} {a : Int} {t : Tok} {i : Nat} (h1 : ds.length = i) (h2 : ∀ d ∈ ds, d < 4) (h3 : StrsAre ys (ds.map rowS)) :
    ∃ ds' : List Nat, ds'.length = i + 1 ∧ (∀ d ∈ ds', d < 4) ∧ StrsAre (ys ++ [.str (Txt.mul (Str.ofString "1") (a.fmod 4) ++ Str.ofString ",") t]) (ds'.map rowS) := by
  refine ⟨ds ++ [(a.fmod 4).toNat], by rw [List.length_append, h1]; rfl, fun d hd => ?_, ?_⟩
  · rcases List.mem_append.mp hd with hd | hd
    · exact h2 d hd
    · rw [List.mem_singleton.mp hd]
      exact (row_made a).2
  · rw [List.map_append, (row_made a).1]
    exact strs_push h3
noncomputable def cellRef {o : Obj} {d : Addr} (_ : o.data = .cell (some (.ref d))) : Addr := d
noncomputable def cellObj {o : Obj} {v : Option Value} (_ : o.data = .cell v) : Obj := o
noncomputable def valsOf {vs : List Value} {ns : List Int} (_ : IntsAre vs ns) : List Value := vs
/-- the play: where it stands -/
structure WS where
  S : Str
  tS : Tok
  turn : Int
  tT : Tok
  po : Obj
  pv : Option Value
/-- what holds at each turn's head; b: whether the sizes came to something at first -/
noncomputable def WP (b : Bool) (c : WS) : Prop := IsSub c.S ∧ 0 ≤ c.turn ∧ c.turn + Txt.count c.S (Str.ofString "1") ≤ 9 ∧ (sumOf c.S != 0) = (b != decide (c.turn.fmod 2 = 1))
theorem s_count {S : Str} (h : IsSub S) : 0 ≤ Txt.count S (Str.ofString "1") ∧ Txt.count S (Str.ofString "1") ≤ 9 := by
  obtain ⟨rs, h, rfl⟩ := h
  rw [count_enc h]
  have := List.all_eq_true.mp (show allRs.all (fun rs => decide (rs.sum ≤ 9)) = true by decide +kernel) rs h
  have := of_decide_eq_true this
  omega
theorem WP.start {S : Str} {tS tT : Tok} {po : Obj} {pv : Option Value} (h : IsSub S) : WP (sumOf S != 0) ⟨S, tS, 0, tT, po, pv⟩ := by
  refine ⟨h, Int.le_refl _, ?_, ?_⟩
  · have := s_count h
    dsimp only
    omega
  · dsimp only
    rw [show decide ((0 : Int).fmod 2 = 1) = false by decide]
    simp
theorem p7 : allRs.all (fun rs => decide ((Builtin.Str.occurrences (encS rs) (Str.ofString "1") 0 (encS rs).length 1).isEmpty = decide (rs.sum = 0))) = true := by decide +kernel
theorem s_in {S : Str} (h : IsSub S) : (Builtin.Str.occurrences S (Str.ofString "1") 0 S.length 1).isEmpty = decide (Txt.count S (Str.ofString "1") = 0) := by
  obtain ⟨rs, h, rfl⟩ := h
  rw [count_enc h, of_decide_eq_true (List.all_eq_true.mp p7 rs h)]
  simp
theorem WP.over {S S' : Str} {turn : Int} (h : IsSub S) (hp : (sumOf S != 0) = ((sumOf S' != 0) != decide (turn.fmod 2 = 1))) (he : (Builtin.Str.occurrences S (Str.ofString "1") 0 S.length 1).isEmpty = true) : ((turn.fmod 2 == 1) == (sumOf S' != 0)) = true := by
  rw [s_in h] at he
  have hz := s_none h (of_decide_eq_true he)
  rw [hz] at hp
  have e : (turn.fmod 2 == 1) = decide (turn.fmod 2 = 1) := rfl
  rw [e]
  generalize (sumOf S' != 0) = x at hp ⊢
  generalize decide (turn.fmod 2 = 1) = y at hp ⊢
  revert hp
  cases x <;> cases y <;> decide
theorem s_more {S : Str} (h : IsSub S) (he : (Builtin.Str.occurrences S (Str.ofString "1") 0 S.length 1).isEmpty = false) : 0 < Txt.count S (Str.ofString "1") := by
  rw [s_in h] at he
  have := of_decide_eq_false he
  have := s_count h
  omega
section
variable {prog : Program} {w : World} {A : Around} {E : Value → Shared → Prop} {s : Shared} {h₀ : Heap} {L : Addr} {m : Str → Option Value} {news : List (Addr × Obj)} {Q : Value → Shared → Prop}
theorem len_strs {l : Addr} {vs : List Value} {ss : List Str} {nn : Nat} {c : Int} (N : News h₀ L s.heap news) (hm : (l, listOf vs.toArray nn) ∈ news) (hs : StrsAre vs ss) (hc : (ss.length : Int) = c) (hb : ss.length ≤ 400) (h : ∀ t k, Q (.int c t) { s with toks := k }) :
    wpAny (model prog w) A (call (.builtin "len") [.ref l]) Q E s := by
  have e : vs.toArray.size = ss.length := by rw [List.size_toArray]; exact hs.length
  exact kun_lenL (News.isList N hm) (by rw [e]; exact hc) (by omega) (h _ _)
theorem len_set {D : Addr} {o : Obj} {S : Str → Bool} {n : Nat} {c : Int} {g : Obj → List (Addr × Obj)} (N : News h₀ L s.heap news) (U : UpdF D o news g) (hs : o.SetObjOf (PySem.strKind prog w) S n) (hc : (n : Int) = c) (hb : n ≤ 400) (h : ∀ t k, Q (.int c t) { s with toks := k }) :
    wpAny (model prog w) A (call (.builtin "len") [.ref D]) Q E s := by
  subst hc
  exact kse_len N U hs (by omega) (h _ _)
theorem ne_same {a : Int} {t u : Tok} (h : Q (.bool false) s) : wpAny (model prog w) A (compareOp .NotEq (.int a t) (.int a u)) Q E s := ne_int (by simpa using h)
theorem kss_new' {l : Addr} {vs : List Value} {ss : List Str} {nn : Nat} (F : Fr h₀ L s.heap m) (N : News h₀ L s.heap news) (hm : (l, listOf vs.toArray nn) ∈ news) (hh : A.handled = none) (hi : StrsAre vs ss) (hnd : ss.Nodup) (hb : ss.length ≤ 400)
    (h : ∀ D h' (tk : Nat) o, Fr h₀ L h' m → News h₀ L h' ((D, o) :: news) → (∀ p ∈ news, p.1 < D) → o.SetObjOf (PySem.strKind prog w) (fun x => ss.contains x) ss.length → Q (.ref D) { s with heap := h', toks := tk }) :
    wpAny (model prog w) A (call (.type "set") [.ref l]) Q E s := kss_new F N hh (News.isList N hm) hi hnd (by unfold scanBound; omega) h
end
theorem strs_size {vs : List Value} {ss : List Str} (hs : StrsAre vs ss) (hb : ss.length ≤ 400) : vs.toArray.size ≤ sizeLine := by
  have e : vs.toArray.size = ss.length := by rw [List.size_toArray]; exact hs.length
  rw [e, sizeLine_eq]
  omega
section
variable {ss : List Str} {i : Nat} {x : Str} {t : Tok} {ys : List Value} {f : Str → Bool}
theorem filt_yes (hx : ss[i]? = some x) (hf : f x = true) (h : StrsAre ys ((ss.take i).filter f)) : StrsAre (ys ++ [.str x t]) ((ss.take (i + 1)).filter f) := by
  rw [List.take_add_one, hx, List.filter_append]
  simp only [Option.toList_some, List.filter_cons, hf, List.filter_nil, if_true]
  exact strs_push h
theorem filt_no (hx : ss[i]? = some x) (hf : f x = false) (h : StrsAre ys ((ss.take i).filter f)) : StrsAre ys ((ss.take (i + 1)).filter f) := by
  rw [List.take_add_one, hx, List.filter_append]
  simp only [Option.toList_some, List.filter_cons, hf, List.filter_nil, Bool.false_eq_true, if_false, List.append_nil]
  exact h
theorem filt_end {vs : List Value} (hs : StrsAre vs ss) (h : StrsAre ys ((ss.take vs.toArray.size).filter f)) : StrsAre ys (ss.filter f) := by
  have e : vs.toArray.size = ss.length := by rw [List.size_toArray]; exact hs.length
  rwa [e, List.take_length] at h
end
theorem cut_int {M : Model} {A : Around} {E : Value → Shared → Prop} {s : Shared} {e : Sem Value} {Q : Value → Shared → Prop} (n : Int) (h1 : wpAny M A e (fun v s' => Stop (∃ t k, v = .int n t ∧ s' = { s with toks := k })) E s) (h2 : ∀ t k, Q (.int n t) { s with toks := k }) : wpAny M A e Q E s :=
  wpAny_mono h1 (fun v s' h => by
    obtain ⟨t, k, rfl, rfl⟩ := h.go
    exact h2 t k) fun _ _ e => e
theorem s_at {S x : Str} {i : Nat} (h : IsSub S) (hx : (movesOf S)[i]? = some x) : IsSub x ∧ x.length ≤ 400 := by
  have := (s_next h (List.mem_of_getElem? hx)).1
  exact ⟨this, Nat.le_trans (s_len this) (by omega)⟩
open PySem.SeqAt PyProof.V in
theorem strs_can : ∀ ss : List Str, (∀ x ∈ ss, PyData.strOk x = true) → PyData.canLayAll0 (ss.map PyData.str) = true
  | [], _ => by simp [PyData.canLayAll0]
  | n :: r, h => by
    have h1 := h n (.head _)
    have h2 := strs_can r fun x hx => h x (.tail _ hx)
    simp [PyData.canLayAll0, PyData.canLay0, h1, h2]
theorem strs_depth : ∀ ss : List Str, PyData.depthAll (ss.map PyData.str) = 0
  | [] => rfl
  | _ :: r => by simp [PyData.depthAll, PyData.depth, strs_depth r]
open PySem.SeqAt in
theorem strs_shaped (ss : List Str) (h : ∀ x ∈ ss, PyData.strOk x = true) : SeqAt.shaped (.list (ss.map PyData.str)) = true := by
  simp [SeqAt.shaped, PyData.canLay0, PyData.depth, strs_can ss h, strs_depth]
open PyProof.V in
theorem strs_carried : ∀ {vs : List Value} {ss : List Str}, StrsAre vs ss → CarriedAll vs (ss.map PyData.str)
  | _, _, .nil => .nil
  | _, _, .cons _ t r => .cons (.str _ t) (strs_carried r)
open PySem.SeqAt PyProof.V in
theorem ne_nil {prog : Program} {w : World} {A : Around} {E : Value → Shared → Prop} {s : Shared} {h₀ : Heap} {L : Addr} {news : List (Addr × Obj)} {Q : Value → Shared → Prop} {a b : Addr} {vs : List Value} {ss : List Str} {nn nm : Nat} {c : Bool} (N : News h₀ L s.heap news) (ha : (a, listOf vs.toArray nn) ∈ news) (hb : (b, listOf #[] nm) ∈ news) (hs : StrsAre vs ss) (hok : ∀ x ∈ ss, PyData.strOk x = true) (hc : (!decide (ss = [])) = c) (hu : A.units + 64 < cLine)
    (h : Q (.bool c) s) : wpAny (model prog w) A (compareOp .NotEq (.ref a) (.ref b)) Q E s := by
  refine ne_dataH_same (da := .list (ss.map PyData.str)) (db := .list []) (reads_newData (News.isList N ha) (strs_carried hs)) (reads_newData (ys := []) (News.isList N hb) .nil) (strs_shaped ss hok) (by decide) hu ?_ ?_
  · cases ss <;> simp [noMix, noMixAll]
  · have : PySem.Spec.same (.list (ss.map PyData.str)) (.list []) = decide (ss = []) := by
      cases ss <;> simp [PySem.Spec.same, PySem.Spec.sameAll]
    rw [this, hc]
    exact h
theorem sub_ok {S : Str} (h : IsSub S) : PyData.strOk S = true := by
  obtain ⟨rs, h, rfl⟩ := h
  exact List.all_eq_true.mp (show allRs.all (fun rs => PyData.strOk (encS rs)) = true by decide +kernel) rs h
theorem good_ok {S : Str} (h : IsSub S) : ∀ x ∈ goodOf S, PyData.strOk x = true := fun x hx => sub_ok (s_next h ((List.mem_filter.mp hx).1)).1
section
variable {prog : Program} {w : World} {A : Around} {E : Value → Shared → Prop} {s : Shared} {h₀ : Heap} {L : Addr} {m : Str → Option Value} {news : List (Addr × Obj)} {Q : Value → Shared → Prop}
theorem eq_known {a b : Int} {t u : Tok} {c : Bool} (hc : (a == b) = c) (h : Q (.bool c) s) : wpAny (model prog w) A (compareOp .Eq (.int a t) (.int b u)) Q E s := eq_int (by rw [hc]; exact h)
theorem gt_known {a b : Int} {t u : Tok} {c : Bool} (hc : decide (b < a) = c) (h : Q (.bool c) s) : wpAny (model prog w) A (compareOp .Gt (.int a t) (.int b u)) Q E s := gt_int (by subst hc; exact h)
theorem item_strs9 {value slice : Expr} {l : Addr} {vs : List Value} {ss : List Str} {nn : Nat} {k : Int} {u : Tok} (N : News h₀ L s.heap news) (hm : (l, listOf vs.toArray nn) ∈ news) (hs : StrsAre vs ss) (h0 : 0 ≤ k) (hk : k < ss.length) (hb : ss.length ≤ 400)
    (h : ∀ x t, ss[k.toNat]? = some x → Q (.str x t) s)
    (hS : subscripted slice false (.ref l) (.int k u) = operate [.ref l, .int k u] (getItem (.ref l) (.int k u)) := by with_unfolding_all rfl) (hg : ∀ r, letTemporaryGo value (.ref l) r = pure () := by intro _; with_unfolding_all rfl) :
    wpAny (model prog w) A (subscriptTail value slice (.ref l) (.int k u)) Q E s := by
  have e := hs.length
  have hi : k.toNat < vs.length := by omega
  obtain ⟨x, t, hv, hx⟩ := strs_get hs (List.getElem?_eq_getElem hi)
  exact item_list (News.isList N hm) h0 (by omega) (by rw [List.getElem?_toArray, List.getElem?_eq_getElem hi, hv]) (h x t hx) hS hg
end
theorem fmod2 (a : Int) : a.fmod 2 = 0 ∨ a.fmod 2 = 1 := by
  have h := Int.fmod_nonneg_of_pos a (b := 2) (by decide)
  have h' := Int.fmod_lt_of_pos a (b := 2) (by decide)
  omega
theorem turn_flips (a : Int) : decide ((a + 1).fmod 2 = 1) = !decide (a.fmod 2 = 1) := by
  have e1 : a.fmod 2 = a % 2 := Int.fmod_eq_emod_of_nonneg a (by decide)
  have e2 : (a + 1).fmod 2 = (a + 1) % 2 := Int.fmod_eq_emod_of_nonneg (a + 1) (by decide)
  rw [e1, e2]
  rcases Int.emod_two_eq a with h | h
  · have : (a + 1) % 2 = 1 := by omega
    rw [h, this]; decide
  · have : (a + 1) % 2 = 0 := by omega
    rw [h, this]; decide
theorem WP.next {b : Bool} {S x : Str} {turn : Int} {tS tT : Tok} {po : Obj} {pv : Option Value} (hs : IsSub S) (ht : 0 ≤ turn) (hc : turn + Txt.count S (Str.ofString "1") ≤ 9) (hp : (sumOf S != 0) = (b != decide (turn.fmod 2 = 1))) (hx : x ∈ movesOf S) (hz : (sumOf x != 0) = !(sumOf S != 0)) :
    WP b ⟨x, tS, turn + 1, tT, po, pv⟩ := by
  have hn := s_next hs hx
  refine ⟨hn.1, by dsimp only; omega, by dsimp only; omega, ?_⟩
  dsimp only
  rw [hz, hp, turn_flips]
  generalize decide (turn.fmod 2 = 1) = y
  cases b <;> cases y <;> rfl
theorem WP.less {S x : Str} (hs : IsSub S) (hx : x ∈ movesOf S) : (Txt.count x (Str.ofString "1")).toNat < (Txt.count S (Str.ofString "1")).toNat := by
  have hn := s_next hs hx
  have := s_count hn.1
  omega
theorem good_of {S x : Str} (hx : x ∈ goodOf S) : x ∈ movesOf S ∧ sumOf x = 0 := by
  have := List.mem_filter.mp hx
  exact ⟨this.1, of_decide_eq_true this.2⟩
theorem bad_of {S x : Str} (hg : goodOf S = []) (hx : x ∈ movesOf S) : sumOf x ≠ 0 := fun e => by
  have : x ∈ goodOf S := List.mem_filter.mpr ⟨hx, decide_eq_true e⟩
  rw [hg] at this
  cases this
theorem pow_of (S : Str) : powOf S ≠ 0 ∧ (powOf S).natAbs < 1073741824 := by
  unfold powOf
  split <;> decide
theorem split_len {S : Str} (h : IsSub S) : (Txt.split S (Str.ofString ",")).length ≤ 4 := by
  obtain ⟨rs, h, rfl⟩ := h
  have := congrArg List.length (lens h)
  rw [List.length_map, List.length_append] at this
  have h3 := of_decide_eq_true (List.all_eq_true.mp (show allRs.all (fun rs => decide (rs.length ≤ 3)) = true by decide +kernel) rs h)
  rw [this]
  simp only [List.length_cons, List.length_nil]
  omega
theorem pow9_ne (k : Nat) : (9 : Int) ^ k ≠ 0 := by
  have : (0 : Int) < 9 ^ k := Int.pow_pos (by decide)
  omega
theorem pow9_small {turn : Int} (h : turn ≤ 9) : ((9 : Int) ^ turn.toNat).natAbs < 1073741824 := by
  have h' : turn.toNat ≤ 9 := by omega
  generalize turn.toNat = k at h'
  revert k
  decide
theorem fmod_in {a c : Int} {n : Nat} (hn : ((n : Nat) : Int) = c) (h : c ≠ 0) : 0 ≤ a.fmod c ∧ a.fmod c < (n : Int) := by
  subst hn
  exact ⟨Int.fmod_nonneg_of_pos a (by omega), Int.fmod_lt_of_pos a (by omega)⟩
theorem src_in {h₀ : Heap} {ax : Addr} {vs : List Value} {n : Nat} {news : List (Addr × Obj)} (h : (ax, listOf vs.toArray n) ∈ news) : LCg.SrcAt h₀ ax vs.toArray news := .inr ⟨_, h, rfl, _, rfl⟩
theorem pow_hi {S : Str} (h : 1 < sumOf S) : powOf S = 2 := if_pos h
theorem pow_lo {S : Str} (h : ¬ 1 < sumOf S) : powOf S = 1 := if_neg h
theorem pow_hi' {S : Str} {t : Tok} (h : 1 < sumOf S) : Value.int 2 t = Value.int (powOf S) t := by rw [pow_hi h]
theorem pow_lo' {S : Str} {t : Tok} (h : ¬ 1 < sumOf S) : Value.int 1 t = Value.int (powOf S) t := by rw [pow_lo h]
theorem split_small {S x : Str} {i : Nat} (h : IsSub S) (hx : (Txt.split S (Str.ofString ","))[i]? = some x) : x.length ≤ 400 := by
  obtain ⟨rs, h, rfl⟩ := h
  have hm : x.length ∈ rs ++ [0] := by
    rw [← lens h]
    exact List.mem_map.mpr ⟨x, List.mem_of_getElem? hx, rfl⟩
  have := List.all_eq_true.mp (List.all_eq_true.mp (show allRs.all (fun rs => (rs ++ [0]).all (fun n => decide (n ≤ 400))) = true by decide +kernel) rs h) _ hm
  exact of_decide_eq_true this
theorem known_b {S x : Str} (h : sumOf x = 0) (h2 : sumOf S ≠ 0) : (sumOf x != 0) = !(sumOf S != 0) := by
  rw [h, bne_iff_ne.mpr h2]; rfl
theorem known_a {S x : Str} (h : sumOf x ≠ 0) (h2 : sumOf S = 0) : (sumOf x != 0) = !(sumOf S != 0) := by
  rw [h2, bne_iff_ne.mpr h]; rfl
end
section
open PySem.Calls PySem.Spec
theorem pow_bound {k X : Int} (h : k < 0 + (((1 + X - 0).toNat : Nat) : Int)) (hx : X < 3) : k ≤ 1000000 := by omega
theorem cells_pack {vs : List Value} {ns : List Int} (h : IntsAre vs ((ns.take 3).map (fun k' => if k' < 0 then -k' else k') ++ List.drop ((((ns.take 3).length : Nat) : Int)).toNat [1, 9, 0])) : ∃ cs : List Int, IntsAre vs cs ∧ cs.length = 3 ∧ ∀ c ∈ cs, 0 ≤ c := by
  refine ⟨_, h, ?_, ?_⟩
  · simp only [List.length_append, List.length_map, List.length_take, List.length_drop, List.length_cons, List.length_nil, Int.toNat_natCast]
    omega
  · intro c hc
    rcases List.mem_append.mp hc with hc | hc
    · obtain ⟨k, _, rfl⟩ := List.mem_map.mp hc
      split <;> omega
    · have := List.mem_of_mem_drop hc
      simp only [List.mem_cons, List.not_mem_nil, or_false] at this
      omega
local macro_rules | `(tactic| walk_at "nd") => `(tactic| with_reducible rename List.Nodup _ => hnd')
local macro_rules | `(tactic| walk_at "wa") => `(tactic| with_reducible assumption)
local macro_rules | `(tactic| k_qdec) => `(tactic| decide +kernel)
local macro_rules | `(tactic| walk_at "eval ListComp") => `(tactic| ((with_reducible rename (∀ c, c ∈ _ → 0 ≤ c) => hSt'); k_search (eval (Expr.ListComp _ _ _ _) _); refine Stop.go ?_))
local macro_rules | `(tactic| walk_at "CompSrc") => `(tactic| (refine Stop.go ?_))
local macro_rules | `(tactic| walk_at "CompEnd") => `(tactic| ((with_reducible rename (∀ c, c ∈ _ → 0 ≤ c) => hSt'); refine Stop.go ?_))
local macro_rules | `(tactic| walk_at "exec Assign cons Call") => `(tactic| ((with_reducible rename IntsAre _ (List.map _ _ ++ _) => hSt'); refine Stop.go ?_))
local macro_rules | `(tactic| walk_at "subscriptTail Name Slice ref ref") => `(tactic| (k_dflt (refine' kmk_slice_ints ?F ?N ?l ?p ?q ?i ?m ?c ?_ ?s ?t ?z; (case F | N => k_asm); (case l => kmk_list); (case p | q => kmk_part); (case i => l_ints); (case m => exact kmk_from (by l_ints) (Int.natCast_nonneg _)); (case c => kmk_len); (case s => with_unfolding_all rfl); (case t => kmk_pure); (case z => kmk_size)); intro _ _ _ _ _ l1 _ _ _; (try k_lt l1); (try k_sweep)))
local macro_rules | `(tactic| walk_at "binaryOp Pow int int") => `(tactic| (k_dflt (refine' pow_int_small ?k1 ?k2 ?k3 ?_; (case k1 => walk_at "wa"); (case k2 => exact pow_bound (by walk_at "wa") (by walk_at "wa")); (case k3 => decide); k_whole)))
local macro_rules | `(tactic| walk_at "binaryOp FloorDiv int int") => `(tactic| (k_search (binaryOp _ _ (Value.int (4 ^ _) _)); refine floordiv_int (pow4_ne _) ?_ (Or.inl (PyProof.noPylong_small (pow4_small (by walk_at "wa") (by walk_at "wa"))))))
local macro_rules | `(tactic| walk_at "binaryOp Mult str int") => `(tactic| (k_search (binaryOp _ (Value.str _ _) (Value.int (Int.fmod _ 4) _)); refine SB.mul (row_mul _) ?_; intro _ _))
local macro_rules | `(tactic| walk_at "binaryOp Add str str") => `(tactic| (k_search (binaryOp _ (Value.str (Txt.mul _ _) _) _); refine SB.add ?_ (row_room _); intro _ _))
local macro_rules | `(tactic| walk_at "call builtin:str.join") => `(tactic| (k_dflt (refine' join_rows ?a ?b ?c ?d ?e ?f ?_; (case a => exact News.isList (by k_asm) (by walk_at "mem")); (case b | c => walk_at "wa"); (case d | e | f => walk_at "wa")); intro _ _ _ _ _))
local macro_rules | `(tactic| walk_at "GoodW") => `(tactic| (refine Stop.go ?_))
local macro_rules | `(tactic| walk_at "call builtin:len") => `(tactic| (walk_at "nd"; k_search (call (Value.builtin "len") [Value.ref _]); k_dflt (first
  | (refine' len_strs ?N ?m ?s ?c ?b ?_; (case N => k_asm); (case m => walk_at "mem"); (case s | c | b => walk_at "wa"))
  | (refine' len_set ?N ?U ?s ?c ?b ?_; (case N => k_asm); (case U => walk_at "updF"); (case s | c | b => walk_at "wa"))); intro _ _))
local macro_rules | `(tactic| walk_at "compareOp NotEq int int") => `(tactic| (walk_at "nd"; with_reducible refine ne_same ?_))
local macro_rules | `(tactic| walk_at "call type:set cons nil") => `(tactic| (k_dflt (refine' kss_new' ?F ?N ?m ?h ?i ?n ?b ?_; (case F | N => k_asm); (case m => walk_at "mem"); (case h => exact rfl); (case i | n | b => walk_at "wa")); intro _ _ _ _ _ _ l1 _; (try k_lt l1)))
local macro_rules | `(tactic| walk_at "compareOp Eq int int") => `(tactic| (walk_at "nd"; refine' eq_known ?c ?_; (case c => walk_at "wa")))
local macro_rules | `(tactic| walk_at "compareOp Gt int int") => `(tactic| (walk_at "nd"; refine' gt_known ?c ?_; (case c => walk_at "wa")))
local macro_rules | `(tactic| walk_at "compareOp NotEq ref ref") => `(tactic| (k_dflt (refine' ne_nil ?N ?a ?b ?s ?o ?c ?u ?_; (case N => k_asm); (case a | b => walk_at "mem"); (case s | o | c => walk_at "wa"); (case u => ke_room))))
local macro_rules | `(tactic| walk_at "binaryOp FloorDiv int int") => `(tactic| first
  | (k_search (binaryOp _ _ (Value.int (powOf _) _)); refine floordiv_int (pow_of _).1 ?_ (Or.inl (PyProof.noPylong_small (pow_of _).2)))
  | (k_search (binaryOp _ _ (Value.int (9 ^ _) _)); refine floordiv_int (pow9_ne _) ?_ (Or.inl (PyProof.noPylong_small (pow9_small (by walk_at "wa"))))))
local macro_rules | `(tactic| walk_at "binaryOp Pow int int") => `(tactic| (walk_at "nd"; k_dflt (refine' pow_int_small ?k1 ?k2 ?k3 ?_; (case k1 | k2 => walk_at "wa"); (case k3 => decide); k_whole)))
local macro_rules | `(tactic| walk_at "binaryOp Mod int int") => `(tactic| (walk_at "nd"; refine' mod_int' ?c ?_; (case c => walk_at "wa")))
local macro_rules | `(tactic| walk_at "subscriptTail Name") => `(tactic| (walk_at "nd"; k_search (subscriptTail _ _ (Value.ref _) (Value.int _ _)); k_dflt (refine' item_strs9 ?N ?m ?s ?a ?b ?c ?_; (case N => k_asm); (case m => walk_at "mem"); (case s => walk_at "wa"); (case a => first | with_reducible assumption | decide | exact (fmod_in (by walk_at "wa") (by walk_at "wa")).1); (case b => first | with_reducible assumption | exact (fmod_in (by walk_at "wa") (by walk_at "wa")).2); (case c => walk_at "wa")); intro _ _ _))
local macro_rules | `(tactic| walk_at "KswEnd") => `(tactic| (refine Stop.go ?_))
local macro_rules | `(tactic| walk_at "CompSrcT") => `(tactic| (walk_at "nd"; refine Stop.go ?_))
local macro_rules | `(tactic| walk_at "eval IfExp Compare Constant Constant") => `(tactic| (walk_at "nd"; refine Stop.go ?_))
local macro_rules | `(tactic| walk_at "exec While") => `(tactic| (refine Stop.go ?_))
local macro_rules | `(tactic| walk_at "call ref") => `(tactic| ktd_call 614 (moves_tells ?k ?x0 ?_))
local macro_rules | `(tactic| walk_at "call ref") => `(tactic| ktd_call 621 (sum_tells ?k ?x0 ?_))
theorem x_law : PySem.Challenge.rw_xm0959_01.Holds := by
  w_on
  refine holds_law said9 fun said => ?_
  refine holds_open (q := V9) (loose := L9) (Xt := fun s => xlAt V9 [] s && recOk (RowW.records PySem.Challenge.rw_xm0959_01.row.toRowW) s) (XP := XL V9 []) (Yf := Hook.obs (kHook K9 as9 as9_of)) (Ya := Hook.val (kHook K9 as9 as9_of)) (YP := Hook.says (kHook K9 as9 as9_of)) (N := 4400) left9 (Hook.of (kHook K9 as9 as9_of)) (Hook.keeps (kHook K9 as9 as9_of)) (fun s e => xl_of s (Bool.and_eq_true_iff.mp e).1) XL.keeps (by rfl) (by rfl) (by rfl) (fun s e => recFacts_of (Bool.and_eq_true_iff.mp e).2) (by rfl) (by first | assumption | decide +kernel) (by decide +kernel) ⟨rfl, rfl, rfl, rfl, rfl, by decide +kernel⟩ ?hw ?hc
  case hw => w_witness2
  case hc =>
    clear said
    w_strict (
      k_go0
      (all_goals (try k_fold))
      k_steps
      refine ⟨?_⟩
      (k_here; kcf_src; (try k_fmods); (try kcf_lens); k_dflt (refine LCg.CompSrc.ledger (by rfl) (by k_asm) (by k_asm) (by walk_at "mem") (by kcf_size) ?_; intro g'; (refine' kcf_list _ (by first | with_reducible assumption | l_ints) (fun _ _ _ _ _ _ _ _ _ _ _ _ _ _ _ _ _ off' ne' hMark' => ?_) ?_); (all_goals (try (simp only [LCg.Off3, and_true] at off'))); kcf_last))
      k_steps
      refine ⟨?_⟩
      rename IntsAre _ (_ ++ _) => hcs
      obtain ⟨cs, hcs1, hcs2, hcs3⟩ := cells_pack hcs
      clear hcs
      k_steps
      refine ⟨?_⟩
      k_dflt (refine LCg.ListComp_U (F₀ := by k_asm) (by rfl) (by decide) (by rfl) (by decide) (by rfl) ?_)
      k_steps
      refine ⟨?_⟩
      rename IsRange _ _ 0 _ 1 _ _ _ => rgX
      obtain ⟨n, rgY, hn2, hn3⟩ := range_three rgX
      refine LCg.CompSrc.range (n := n) (by rfl) (by k_asm) (by k_asm) rgY (small_one (by omega) (by omega) (by omega) (by omega)) rows_size (by rw [sizeLine_eq]; omega) ?_
      intro g'
      refine comp_L (fun i ys => ∃ ds : List Nat, ds.length = i ∧ (∀ d ∈ ds, d < 4) ∧ StrsAre ys (ds.map rowS)) ?turn ⟨[], rfl, (fun _ h => nomatch h), StrsAre.nil⟩ ?done
      case turn =>
        intro i v ys I oI C oC D m₂ h tk E' hi hJ hv hC hx F₁ N₁ off0 ne
        obtain ⟨t, rfl⟩ := hv
        obtain ⟨ds, hds1, hds2, hds3⟩ := hJ
        have off := off3_of off0 ne
        (try simp only [Apart, and_true] at off)
        (try k_fold)
        k_steps
        refine ⟨?_⟩
        refine' LCg.CompEnd.intro (by k_asm) (by k_asm) _ (fun _ hp => hp) off0 trivial ⟨rfl, rows_more hds1 hds2 hds3⟩
      case done =>
        intro ys hJ
        obtain ⟨ds, hds1, hds2, hds3⟩ := hJ
        k_steps
        refine ⟨?_⟩
        rename Shared => sB
        rename Obj.data _ = Data.cell (some (Value.ref _)) => hcc
        obtain ⟨cl, hq1⟩ : ∃ x, x = cellRef hcc := ⟨_, rfl⟩
        obtain ⟨co, hq2⟩ : ∃ x, x = cellObj hcc := ⟨_, rfl⟩
        obtain ⟨cv, hq3⟩ : ∃ x, x = valsOf hcs1 := ⟨_, rfl⟩
        simp only [cellRef, cellObj, valsOf] at hq1 hq2 hq3
        subst hq1 hq2 hq3
        rename IsSub _ => hSub
        rename Fr _ _ _ _ => F9
        rename News _ _ _ _ => N9
        refine' ksw_while (σ := WS) (fun c => [(cl, listOf cv.toArray 0), (sB.heap.objs.size + 1 + 1, c.po), (sB.heap.objs.size + 1, co)]) (fun c => [(Str.ofString "subject", .str c.S c.tS), (Str.ofString "turn", .int c.turn c.tT)]) (fun c => c.po.data = .cell c.pv)
          [Str.ofString "moves", Str.ofString "whole", Str.ofString "good"] (WP (sumOf _ != 0)) (fun c => (Txt.count c.S (Str.ofString "1")).toNat) ⟨_, _, 0, _, _, _⟩ F9 (newsSub N9 ?kn) ?kf ?kk (WP.start hSub) ?kt
        case kn => (try dsimp only); walk_at "all_in"
        case kf => with_reducible assumption
        case kk => (refine List.forall_mem_cons.mpr ⟨?_, List.forall_mem_cons.mpr ⟨?_, List.forall_mem_nil _⟩⟩ <;> (dsimp only; rfl))
        case kt =>
          intro c u h tk hF hP F₁ N₁
          obtain ⟨S, tS, turn, tT, po, pv⟩ := c
          obtain ⟨hs1, ht0, hct, hpar⟩ := hP
          dsimp only at hF F₁ N₁ hs1 ht0 hct hpar
          have hlen : S.length ≤ 400 := Nat.le_trans (s_len hs1) (by omega)
          have hml := s_moves hs1
          have hnd := s_nodup hs1
          have hml2 : (movesOf S).length ≤ 400 := by (have := s_count hs1; omega)
          clear rgX rgY hds1 hds2 hds3 hn2 hn3 F9 N9
          (try k_fold)
          iterate 7 (walk1)
          · k_steps
            refine ⟨?_⟩
            rename _ = true => hem
            rw [WP.over hs1 hpar hem]
            k_steps
          k_steps
          refine ⟨?_⟩
          k_dflt (refine LCt.ListComp_T (F₀ := by k_asm) (by rfl) (by decide) (by rfl) (by decide) (by rfl) ?_)
          k_steps
          refine ⟨?_⟩
          rename StrsAre _ (movesOf S) => hvs
          refine' LCt.CompSrcT.ledger (by rfl) (by k_asm) (by k_asm) ?mem (strs_size hvs hml2) ?_
          case mem => walk_at "mem"
          intro g'
          refine compT_L (fun i ys => StrsAre ys (((movesOf S).take i).filter (fun m => decide (sumOf m = 0)))) ?turn StrsAre.nil ?done
          case turn =>
            intro i v ys I oI C oC D m₂ h tk E' hi hJ hv hC hx F₁ N₁ off0 ne
            obtain ⟨x, t, rfl, hx'⟩ := strs_get hvs (by simpa using hv)
            have hxl := (s_at hs1 hx').2
            have off := off3_of off0 ne
            (try simp only [Apart, and_true] at off)
            (try k_fold)
            k_steps
            · refine ⟨?_⟩
              rename sumOf x = 0 => hz
              refine' LCg.CompEnd.intro (by k_asm) (by k_asm) _ (fun _ hp => hp) off0 (src_in ?mm) ⟨rfl, filt_yes hx' (decide_eq_true hz) hJ⟩
              case mm => walk_at "mem"
            · refine ⟨?_⟩
              rename sumOf x ≠ 0 => hz
              refine' LCg.CompEnd.intro (by k_asm) (by k_asm) _ (fun _ hp => hp) off0 (src_in ?mm) ⟨rfl, filt_no hx' (decide_eq_false hz) hJ⟩
              case mm => walk_at "mem"
          case done =>
            intro ys hJ
            replace hJ : StrsAre ys (goodOf S) := filt_end hvs hJ
            k_steps
            refine ⟨?_⟩
            refine cut_int (powOf S) ?c1 ?c2
            case c1 =>
              (rename List.Nodup _ => hnd; clear hnd)
              k_steps
              · refine ⟨?_⟩
                exact ⟨_, _, pow_hi' (by with_reducible assumption), rfl⟩
              · refine ⟨?_⟩
                exact ⟨_, _, pow_lo' (by with_reducible assumption), rfl⟩
            case c2 =>
              intro tp kp
              have hcn : Txt.count S (Str.ofString "1") ≠ 0 := by (rename _ = false => hem; have := s_more hs1 hem; omega)
              have htb : turn ≤ 9 := by (have := s_count hs1; omega)
              have htb2 : turn ≤ 1000000 := by omega
              have hgok := good_ok hs1
              have hgb : (goodOf S).length ≤ 400 := Nat.le_trans (List.length_filter_le _ _) hml2
              rcases Int.lt_or_eq_of_le (s_pos hs1) with hz | hz
              · have hz2 : sumOf S ≠ 0 := by omega
                have hg := s_good hs1 hz2
                have e1 : (sumOf S == 0) = false := by simpa using hz2
                have e2 : decide (0 < sumOf S) = true := decide_eq_true hz
                have e3 : (!decide (goodOf S = [])) = true := by simpa using hg.1
                have hgl : ((goodOf S).length : Int) = ((powRows S (powOf S)).length : Int) := by exact_mod_cast hg.2
                have hg0 : (0 : Int) < ((goodOf S).length : Int) := by (have := List.length_pos_iff.mpr hg.1; omega)
                have hpl : ((powRows S (powOf S)).length : Int) = ((powRows S (powOf S)).length : Int) := rfl
                have hpb : (powRows S (powOf S)).length ≤ 400 := Nat.le_trans (List.length_filter_le _ _) (Nat.le_trans (split_len hs1) (by omega))
                k_steps
                refine ⟨?_⟩
                k_dflt (refine LCt.ListComp_T (F₀ := by k_asm) (by rfl) (by decide) (by rfl) (by decide) (by rfl) ?_)
                k_steps
                refine ⟨?_⟩
                rename List.map _ _ = Txt.split _ _ => hsp
                rename StrsAre (strValues _) _ => hsa
                rw [hsp] at hsa
                refine' LCt.CompSrcT.ledger (by rfl) (by k_asm) (by k_asm) ?mem (strs_size hsa (Nat.le_trans (split_len hs1) (by omega))) ?_
                case mem => walk_at "mem"
                intro g'
                refine compT_L (fun i ys => StrsAre ys (((Txt.split S (Str.ofString ",")).take i).filter (fun r => decide (((r.length : Int).fdiv (powOf S)).fmod 2 = 1)))) ?turn StrsAre.nil ?done
                case turn =>
                  intro i v zs I oI C oC D m₂ h tk E' hi hZ hv hC hx F₁ N₁ off0 ne
                  obtain ⟨x, t, rfl, hx'⟩ := strs_get hsa (by simpa using hv)
                  have hxl := split_small hs1 hx'
                  have off := off3_of off0 ne
                  (try simp only [Apart, and_true] at off)
                  (try k_fold)
                  k_steps
                  · refine ⟨?_⟩
                    rename Int.fmod _ 2 = 1 => hz
                    refine' LCg.CompEnd.intro (by k_asm) (by k_asm) _ (fun _ hp => hp) off0 (src_in ?mm) ⟨rfl, filt_yes hx' (decide_eq_true hz) hZ⟩
                    case mm => walk_at "mem"
                  · refine ⟨?_⟩
                    rename Int.fmod _ 2 ≠ 1 => hz
                    refine' LCg.CompEnd.intro (by k_asm) (by k_asm) _ (fun _ hp => hp) off0 (src_in ?mm) ⟨rfl, filt_no hx' (decide_eq_false hz) hZ⟩
                    case mm => walk_at "mem"
                case done =>
                  intro zs hZ
                  replace hZ : StrsAre zs (powRows S (powOf S)) := filt_end hsa hZ
                  k_steps
                  refine ⟨?_⟩
                  rename (goodOf S)[_]? = some _ => hxx
                  have hxm := (good_of (List.mem_of_getElem? hxx)).1
                  have hxz := (known_b (good_of (List.mem_of_getElem? hxx)).2 hz2)
                  refine' ksw_end ⟨_, _, turn + 1, _, _, _⟩ (by k_asm) (by k_asm) ?nn ?ff ?kk ?rr (WP.next hs1 ht0 hct hpar hxm hxz) (WP.less hs1 hxm)
                  case nn => (try dsimp only); walk_at "all_in"
                  case ff => with_reducible assumption
                  case kk => (refine List.forall_mem_cons.mpr ⟨?_, List.forall_mem_cons.mpr ⟨?_, List.forall_mem_nil _⟩⟩ <;> (dsimp only; rfl))
                  case rr =>
                    intro z h2 h3
                    have hz1 : z ≠ Str.ofString "subject" := h2 _ List.mem_cons_self
                    have hz2 : z ≠ Str.ofString "turn" := h2 _ (List.mem_cons_of_mem _ List.mem_cons_self)
                    have hw : z ≠ Str.ofString "moves" ∧ z ≠ Str.ofString "whole" ∧ z ≠ Str.ofString "good" := by (simpa using h3)
                    (try dsimp only)
                    rw [if_neg hz2, if_neg hz1, if_neg hw.2.2, if_neg hw.1, if_neg hw.2.1]
                    (show (if z = Str.ofString "subject" then _ else (if z = Str.ofString "turn" then _ else (if _ = true then _ else _))) = _)
                    rw [if_neg hz1, if_neg hz2, h3]
                    rfl
              · replace hz := hz.symm
                have hg := s_zero hs1 hz
                have e1 : (sumOf S == 0) = true := by simpa using hz
                have e2 : decide (0 < sumOf S) = false := decide_eq_false (by omega)
                have e3 : (!decide (goodOf S = [])) = false := by simpa using hg
                k_steps
                refine ⟨?_⟩
                rename (movesOf S)[_]? = some _ => hxx
                have hxm := List.mem_of_getElem? hxx
                have hxz := (known_a (bad_of hg hxm) hz)
                refine' ksw_end ⟨_, _, turn + 1, _, _, _⟩ (by k_asm) (by k_asm) ?nn ?ff ?kk ?rr (WP.next hs1 ht0 hct hpar hxm hxz) (WP.less hs1 hxm)
                case nn => (try dsimp only); walk_at "all_in"
                case ff => with_reducible assumption
                case kk => (refine List.forall_mem_cons.mpr ⟨?_, List.forall_mem_cons.mpr ⟨?_, List.forall_mem_nil _⟩⟩ <;> (dsimp only; rfl))
                case rr =>
                  intro z h2 h3
                  have hz1 : z ≠ Str.ofString "subject" := h2 _ List.mem_cons_self
                  have hz2 : z ≠ Str.ofString "turn" := h2 _ (List.mem_cons_of_mem _ List.mem_cons_self)
                  have hw : z ≠ Str.ofString "moves" ∧ z ≠ Str.ofString "whole" ∧ z ≠ Str.ofString "good" := by (simpa using h3)
                  (try dsimp only)
                  rw [if_neg hz2, if_neg hz1, if_neg hw.2.2, if_neg hw.1, if_neg hw.2.1]
                  (show (if z = Str.ofString "subject" then _ else (if z = Str.ofString "turn" then _ else (if _ = true then _ else _))) = _)
                  rw [if_neg hz1, if_neg hz2, h3]
                  rfl)
end
end
end
end Mine
theorem PySem.Challenge.cw_xm0959_01_holds : PySem.Challenge.rw_xm0959_01.Holds :=
  Mine.x_law
