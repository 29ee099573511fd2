import PyProof.Rows.All
import Wide.All
import OpenK.AllK
import Wide.FinOn
import HandS.Base
import HandS.Call
import HandS.Ends
import HandS.Exc
import HandS.ExcOwn
import HandS.CallSlots
import HandS.Defaults
import HandS.HeadEnd
import HandS.List
import HandS.Comp
import HandS.Iter
import HandS.Text
import HandS.TupAny
import HandS.TupMul
import HandS.Wide
import HandS.Words
import HandS.WordsList
import PyProof.Rows.IntBool
import HandS.Style
import HandS.Deep
import HandS.Flt
import HandS.SortInts
import PyProof.FitsInt
import PyProof.Rows.ReprOcc
import PyProof.ReprRoads
import PyProof.CallFns
import HandS.Zip
import HandS.IsInst
import HandS.More
import KE.KUnpackStar
import PyProof.EqAt
import PyProof.EqKinds
import PyProof.TupleCall
import KE.KFromBytes
import KE.KExcInit
import KE.KExcIs
import PyProof.ExcBaseAll.ValueError
import PyProof.ExcBaseAll.TypeError
import PyProof.ExcBaseAll.IndexError
import PyProof.ExcBaseAll.LookupError
import PyProof.ExcBaseAll.OverflowError
import PyProof.ExcBaseAll.ZeroDivisionError
import HandS.ExcInit
import HandS.ExcValue
import HandS.HeadHook3
import HandS.StrMore
import HandS.MakeKw
import KE.KIsAll
import HandS.Dict
import HandS.Conv
import HandS.SortKw
import PyProof.MinMaxWalk
import PyProof.SumWalkG
import PyProof.WalkInts
import PyProof.Rows.SumAny
import KE.KStateDown
import HandS.WordsExc
import HandS.Codes
import HandS.Head0
import HandS.Head1
import HandS.Head2
import HandS.HeadHook1
import HandS.HeadHook2
import PyProof.StrLawsRepr
import PyProof.ReprLen
import Wide.Txt
import Lean
import PySem.Challenge.RW_holdmargins_k53_what_pieces_are
set_option Elab.async false
section
set_option linter.all false
set_option maxRecDepth 100000
set_option maxHeartbeats 4000000
/-! PiV: a def's promise where nothing that is being shown stands below (repr asks that). -/
namespace Pi
open PySem PySem.Spec PyProof.Rows L2
/-- nothing is being shown below -/
abbrev Quiet (A : Around) : Prop := A.guards = some []
structure FnG (P : Program) (w : World) (K : PySem.W.Frag) (mg : Str → Option Value) (base : Heap) (CX : CXT) (k : Nat) (f : Addr) (fd : FuncData) (ps : List Str) (sp : Sp) : Prop where
  many : ∀ {vs : List V} {H : Hp} {Q : VK} {E : XK}, sp vs H Q E → vs.length = ps.length
  run : ∀ (A : Around) (outer : List PySem.Env) (s : Shared) (H : Hp) (args : Args) (us : List Value) (vs : List V) (Q : VK) (E : XK), Quiet A → Room k A → Env0 P w K mg base A outer s H → BindsTo s fd args (ps.zip us) → Vals vs us → sp vs H Q E → codeAny (model P w) A (.call (.ref f) args) (CR CX outer P w H s Q E) s
section
variable {P : Program} {w : World} {K : PySem.W.Frag} {mg : Str → Option Value} {base : Heap} {CX : CXT} {k : Nat} {f : Addr} {ps : List Str} {sp : Sp}
/-- a def of the text, by its body -/
theorem FunD.okG {x qual : Str} {params : Arguments} {body : List Stmt} {scope : Scope} {dvs : List V} {kws : List (Str × V)} {fd : FuncData} {N : List Str} (F : FunD K x qual params body scope dvs kws f fd) (S : FnScope N ps scope)
    (many : ∀ {vs : List V} {H : Hp} {Q : VK} {E : XK}, sp vs H Q E → vs.length = ps.length)
    (hbody : ∀ (cdv : Value) (A : Around) (outer : List PySem.Env) (s : Shared) (H : Hp) (vs : List V) (Q : VK) (E : XK), Quiet (A.deeper (envOfC qual scope s.heap.objs.size f cdv)) → Room k (A.deeper (envOfC qual scope s.heap.objs.size f cdv)) → sp vs H Q E →
      ∃ t, PSs (cxOf CX P w K mg base N qual scope f cdv A outer s H E) body t ∧ t { nx := fun _ H' => Q .non H', rt := Q } (start N vs) H) : FnG P w K mg base CX (k + 1) f fd ps sp := by
  obtain ⟨_, _, _, _, _, _, _, cdv, _, _, rfl, lk, hcd, _⟩ := F.ex
  refine ⟨many, fun A outer s H args us vs Q E hg hr e0 hb r hsp => ?_⟩
  have at_ : K.In s.heap := e0.mod.kin.keeps fun b o e => (e0.bs b o e).1
  have kind_ : ∀ y ∈ ps.zip us, scope.names.lookup y.1 = some .local ∨ (scope.names.lookup y.1 = some .cell ∧ ((cellsFrom (s.heap.objs.size + 1) scope.names []).lookup y.1).isSome = true) := by
    intro y hy
    obtain ⟨n, v⟩ := y
    cases S.par n (List.of_mem_zip hy).1 with
    | inl q => exact .inl q
    | inr q => exact .inr ⟨q, PySem.W.cellsFrom_some _ _ _ (.inl q)⟩
  refine codeAny_call_function hr.depth (at_ _ _ lk) rfl S.co S.gen rfl (PySem.W.codeRec_of at_ hcd) (hb _ _ _ _ ?_)
  refine wpAny_newFunctionEnv_cells S.kind kind_ fun env he s1 x1 => ?_
  subst he
  refine ⟨(e0.mod.nolimit.keeps fun b o e => (e0.bs b o e).1).keeps x1.toInCall.keep, codeAny_func ?_⟩
  obtain ⟨t, ht, hq⟩ := hbody cdv A outer s H vs Q E hg (hr.deeper _) hsp
  refine wpAny_mono (ht.run [] s1 (start N vs) H _ (inv_start S hr.hd e0 (many hsp) r x1) hq) (fun fl s' hs => ?_) fun _ _ z => z
  match fl, hs with
  | .ret u, hs =>
    obtain ⟨v, _, H', J, rv, q⟩ := hs
    exact ⟨v, H', J.os, J.bare, J.base, J.hok, rv, q⟩
  | .next, hs =>
    obtain ⟨_, H', J, q⟩ := hs
    exact ⟨.non, H', J.os, J.bare, J.base, J.hok, rfl, q⟩
  | .brk, hs =>
    obtain ⟨_, _, _, q⟩ := hs
    exact q.elim
  | .cont, hs =>
    obtain ⟨_, _, _, q⟩ := hs
    exact q.elim
theorem FnG.mono {j : Nat} {f : Addr} {fd : FuncData} (F : FnG P w K mg base CX j f fd ps sp) (h : j ≤ k) : FnG P w K mg base CX k f fd ps sp := ⟨F.many, fun A outer s H args us vs Q E hg hr => F.run A outer s H args us vs Q E hg (hr.mono h)⟩
end
section
variable {X : Cx} {CX : CXT} {k : Nat} {f : Addr} {fd : FuncData} {ps : List Str} {sp : Sp} {dvs : List V} {ds : List Value} {E : L2.St → XK} {x : Str} {p pos : Pos} {e : Expr} {es : List Expr} {t : TA}
/-- a call that has its arguments, as one binds them -/
theorem run_g {pins : List (Addr × Obj)} {σ : L2.St} {H : Hp} {s : Shared} {Q : VK} {args : Args} {us : List Value} {vs : List V} (F : FnG X.prog X.w X.K X.mg X.base CX k f fd ps sp) (hq : Quiet X.A) (hr : Room k X.A) (hx : PassesAt CX X σ (E σ)) (J : Inv X pins σ H s)
    (hb : BindsTo s fd args (ps.zip us)) (r : Vals vs us) (h : sp vs H Q (E σ)) : codeAny (model X.prog X.w) X.A (.call (.ref f) args) (fun r s' => match r with
      | .ok (.ret u) => EP X pins σ Q u s'
      | .error z => X.xe z s'
      | _ => False) s := by
  refine codeAny_mono (F.run X.A X.stack s H args us vs Q (E σ) hq hr J.env0 hb r h) fun r s' z => ?_
  match r, z with
  | .error e, z => exact hx pins H s e s' J z
  | .ok (.ret u), z => exact J.after z
  | .ok .next, z => exact z.elim
  | .ok .brk, z => exact z.elim
  | .ok .cont, z => exact z.elim
theorem run_fnG {pins : List (Addr × Obj)} {σ : L2.St} {H : Hp} {s : Shared} {Q : VK} {us : List Value} {vs : List V} (F : FnG X.prog X.w X.K X.mg X.base CX k f fd ps sp) (hq : Quiet X.A) (hr : Room k X.A) (hb : Binds X.K fd ps []) (hx : PassesAt CX X σ (E σ)) (J : Inv X pins σ H s)
    (r : Vals vs us) (h : sp vs H Q (E σ)) : wpAny (model X.prog X.w) X.A (call (.ref f) us) (EP X pins σ Q) X.xe s := by
  have hl : us.length = ps.length := r.length.symm.trans (F.many h)
  have bt := hb s us J.kIn (by rw [List.append_nil]; exact hl)
  rw [List.append_nil] at bt
  refine wpAny_call (codeAny_mono (run_g F hq hr hx J bt r h) fun r s' z => ?_)
  match r, z with
  | .error e, z => exact z
  | .ok (.ret u), z => exact z
  | .ok .next, z => exact z.elim
  | .ok .brk, z => exact z.elim
  | .ok .cont, z => exact z.elim
/-- f(e, ..), f a def of the text -/
theorem pe_callG (F : FnG X.prog X.w X.K X.mg X.base CX k f fd ps sp) (hq : Quiet X.A) (hr : Room k X.A) (hg : Gl X x) (hm : X.mg x = some (.ref f)) (hk : PySem.W.keepIn X.K (.ref f) = true) (hb : Binds X.K fd ps []) (hx : ∀ σ, PassesAt CX X σ (E σ))
    (ha : PA X (e :: es) t) (hdb : (x == ("__debug__" : Str)) = false) (he : starEach (e :: es) X.env = (false, eval e X.env) :: starEach es X.env) (hpl : (backTo pos (starEach es X.env)).any (·.1) = false) :
    PE X (.Call (.Name x p) (e :: es) [] pos) (fun σ H Q => t σ H fun vs H1 => sp vs H1 Q (E σ)) :=
  ⟨fun pins s σ H Q J h => wpAny_Call_Name_kw (ld_glob J hg hm (PySem.W.callWith_K (h₀ := X.base) J.ok.mod.kin hk (thn (ha.run pos pins s σ H _ J h) fun us s1 ⟨vs, H1, J1, r, q⟩ => ⟨J1.kIn, run_fnG F hq hr hb (hx σ) J1 r q⟩) he hpl) hdb)⟩
end
/-! ### the top -/
section
variable {K : PySem.W.Frag} {a : Addr} {ns : List Int} {vs : List Value} {s : Shared}
/-- what is tracked as the law is asked: its script, if the top does not know it -/
def askH (K : PySem.W.Frag) (a : Addr) (vs : List Value) (ns : List Int) : Hp := fun b => if b = a ∧ K.lookup a = none then some (.frz { cls := .type "list", data := .seq vs.toArray } (.lst (ns.map V.int))) else none
theorem askH_else {b : Addr} (h : b ≠ a) : askH K a vs ns b = none := if_neg fun z => h z.1
theorem askH_known {o : Obj} (h : K.lookup a = some o) (b : Addr) : askH K a vs ns b = none := if_neg fun z => by
  rw [h] at z
  cases z.2
theorem askH_free {b : Addr} {o : Obj} (h : K.lookup b = some o) : askH K a vs ns b = none := by
  by_cases e : b = a
  · subst e
    exact askH_known h b
  · exact askH_else e
theorem askH_some {b : Addr} {u : HO} (h : askH K a vs ns b = some u) : b = a ∧ u = .frz { cls := .type "list", data := .seq vs.toArray } (.lst (ns.map V.int)) := by
  unfold askH at h
  split at h
  · rename_i z
    cases h
    exact ⟨z.1, rfl⟩
  · cases h
theorem askH_only : Only (askH K a vs ns) := fun b => by
  cases q : askH K a vs ns b with
  | none => exact .inl rfl
  | some u => exact .inr ⟨_, _, congrArg some (askH_some q).2⟩
theorem law_g {P : Program} {w : World} {mg mb : Str → Option Value} {CX : CXT} {k : Nat} {fa : Addr} {fd : FuncData} {x : Str} {sp : Sp} (KX : K.In s.heap) (hns : s.heap.Ns mainGlobals mg) (hb : s.heap.Ns builtinsNs mb) (hbb : ∀ x : Str, x ≠ "__name__" → mb x = bootBuiltins x)
    (hlim : s.heap.NoLimit) (hg : s.gens = #[]) (ha : s.heap.get? a = some { cls := .type "list", data := .seq vs.toArray }) (hi : IntsAre vs ns) (hl : ns.length ≤ sizeLine) (hr : Room k callerA)
    (F : ∀ base : Heap, K.In base → base.Ns mainGlobals mg → FnG P w K mg base CX k fa fd [x] sp) (hbind : ∀ (s : Shared) (u : Value), BindsTo s fd ⟨[u], []⟩ [(x, u)])
    (hsp : ∀ H : Hp, Only H → SqL K H a (ns.map V.int) → sp [.ref a] H (fun v _ => v = .bl true) fun _ _ _ => False) (hCX : ∀ H e s', CX [] H s (fun _ _ _ => False) e s' → False) :
    codeAny (model P w) callerA (.call (.ref fa) ⟨[.ref a], []⟩) (fun r s' => r = .ok (.ret (.bool true)) ∧ OldK s.heap s'.heap ∧ s'.os = s.os ∧ AllBare s'.gens) s := by
  have rv := vals_ints hi
  have sq : SqL K (askH K a vs ns) a (ns.map V.int) := by
    cases q : K.lookup a with
    | none => exact .inl (.inr ⟨_, if_pos ⟨rfl, q⟩⟩)
    | some o =>
      have e := KX a o q
      rw [ha] at e
      cases e
      exact .inr ⟨_, vs.toArray, _, q, rfl, rfl, rfl, by rw [List.size_toArray, hi.length]; exact hl, by simpa using rv⟩
  have hok : HOk P w (askH K a vs ns) s.heap := fun b u z => by
    obtain ⟨rfl, rfl⟩ := askH_some z
    refine ⟨ha, ?_, vs, _, rv, ha⟩
    rw [List.length_map]
    exact hl
  have seen : ∀ {b : Addr} {o : Obj}, s.heap.get? b = some o → askH K a vs ns b = none → (hidT s.heap (askH K a vs ns)).get? b = some o := fun e n => hidT_get e n
  have spaces : ∀ {b : Addr} {m : Str → Option Value}, s.heap.Ns b m → (hidT s.heap (askH K a vs ns)).Ns b m := by
    intro b m ⟨o, es, ep, e, d, r⟩
    refine ⟨o, es, ep, seen e (askH_else fun z => ?_), d, r⟩
    rw [z, ha] at e
    cases e
    cases (show Data.seq vs.toArray _ = Data.dict es ep from d)
  have kin : K.In (hidT s.heap (askH K a vs ns)) := fun b o e => seen (KX b o e) (askH_free e)
  have md : Mod K mg (hidT s.heap (askH K a vs ns)) := by
    obtain ⟨mc, h1, h2⟩ := hlim
    exact ⟨kin, spaces hns, ⟨mb, spaces hb, hbb⟩, ⟨mc, spaces h1, h2⟩⟩
  have e0 : Env0 P w K mg (hidT s.heap (askH K a vs ns)) callerA [] s (askH K a vs ns) :=
    ⟨rfl, md, fun b o e => of_hidT e, Nat.le_of_eq (hidT_size _ _), trivial, fun b hb => absurd hb (List.not_mem_nil), hok, .of_eq hg⟩
  refine codeAny_mono ((F _ kin (spaces hns)).run callerA [] s _ ⟨[.ref a], []⟩ [.ref a] [.ref a] _ _ rfl hr e0 (hbind s (.ref a)) (.cons rfl .nil) (hsp _ askH_only sq)) fun r s' z => ?_
  match r, z with
  | .error e, z => exact (hCX _ e s' z).elim
  | .ok .next, z => exact z.elim
  | .ok .brk, z => exact z.elim
  | .ok .cont, z => exact z.elim
  | .ok (.ret u), z =>
    obtain ⟨v, H', os, bare, un, hok', r', q⟩ := z
    obtain rfl : v = .bl true := q
    have tr : u = .bool true := r'
    subst tr
    refine ⟨rfl, .of_keep fun b o e => ?_, os, bare⟩
    cases q : askH K a vs ns b with
    | none => exact un.keep b o e q (fun z => absurd z (List.not_mem_nil)) (by simp)
    | some v =>
      obtain ⟨rfl, rfl⟩ := askH_some q
      obtain ⟨e2, _⟩ := hok' _ _ (un.frzs _ _ _ q)
      rw [ha] at e
      cases e
      exact e2
end
/-- what is shown of the law's def at fa: it comes to True for every script -/
def TopSays (P : Program) (CX : CXT) (n k : Nat) (x : Str) (w : World) (mg : Str → Option Value) (fa : Addr) (h : Heap) : Prop := ∃ (K : PySem.W.Frag) (fd : FuncData) (sp : Sp), K.In h ∧ (∀ (s : Shared) (u : Value), BindsTo s fd ⟨[u], []⟩ [(x, u)]) ∧ (∀ (H : Hp) (a : Addr) (ns : List Int), ns.length ≤ n → Only H → SqL K H a (ns.map V.int) → sp [.ref a] H (fun v _ => v = .bl true) fun _ _ _ => False) ∧ ∀ base : Heap, K.In base → base.Ns mainGlobals mg → FnG P w K mg base CX k fa fd [x] sp
/-- a law, by that -/
theorem walk_g {l : PySem.W.OpenLaw} {n k : Nat} {q : Program} {loose : List Str} {XP : (Str → Option Value) → Heap → Prop} {YP : World → Heap → Prop} {d : DefRec} {CX : CXT} {x : Str} (hn : l.most = some n) (hn2 : n ≤ sizeLine) (hdf : d.params.defaults = []) (hr : Room k callerA)
    (F : ∀ (w : World) (mg : Str → Option Value) (fa : Addr) (h : Heap), YP w h → h.Ns mainGlobals mg → mg d.name = some (.ref fa) → TopSays l.prog CX n k x w mg fa h) (hCX : ∀ (H : Hp) (s : Shared) (e : Value) (s' : Shared), CX [] H s (fun _ _ _ => False) e s' → False) : PySem.W.WalkO q loose XP YP l.row.toRowW d [] (fun f vs => PySem.call f vs) :=
  Att.attach_call hn hdf fun w _ s₁ mg _ fa _ _ _ _ a _ ns G Y _ _ _ hmg hobj hints hlen hg => by
    obtain ⟨K, fd, sp, kin, hb, hsp, hF⟩ := F w mg fa s₁.heap Y G.T.g hmg
    exact law_g kin G.T.g G.T.b G.T.builtins G.T.nolimit hg hobj hints (Nat.le_trans hlen hn2) hr hF hb (fun H hO hS => hsp H a ns hlen hO hS) fun H e s' z => hCX H s₁ e s' z
end Pi

end
section
set_option linter.all false
set_option maxRecDepth 100000
/-! PiA: a small language of values, its terms and their meaning (plain Lean). -/
namespace Pi
open PySem

inductive Val where
  | non | bl (b : Bool) | int (i : Int) | str (x : Str)
  | tup (l : List Val) | lst (l : List Val) | loc (n : Nat) | exn (c : String) (x : Val)
  | dct (ks : List Str) (vs : List Val)
instance : Inhabited Val := ⟨.non⟩

inductive Ob where
  | lst (l : List Val)
  | ro (l : List Val)
  | ins (c : String) (fs : List (String × Val))
abbrev Store := List Ob

inductive Res (α : Type) where
  | ok (a : α) (S : Store)
  | exc (x : Val) (S : Store)
  | bad
def Res.bind {α β : Type} (r : Res α) (f : α → Store → Res β) : Res β :=
  match r with
  | .ok a S => f a S
  | .exc x S => .exc x S
  | .bad => .bad
@[simp] theorem Res.bind_ok {α β : Type} (a : α) (S : Store) (f : α → Store → Res β) : (Res.ok a S).bind f = f a S := rfl
@[simp] theorem Res.bind_exc {α β : Type} (x : Val) (S : Store) (f : α → Store → Res β) : (Res.exc x S : Res α).bind f = .exc x S := rfl
@[simp] theorem Res.bind_bad {α β : Type} (f : α → Store → Res β) : (Res.bad : Res α).bind f = .bad := rfl
def Res.of {α : Type} (o : Option α) (S : Store) : Res α :=
  match o with
  | some a => .ok a S
  | none => .bad
@[simp] theorem Res.of_some {α : Type} (a : α) (S : Store) : Res.of (some a) S = .ok a S := rfl
@[simp] theorem Res.of_none {α : Type} (S : Store) : (Res.of none S : Res α) = .bad := rfl

/-- the longest list, tuple, text -/
abbrev lim : Nat := 16777216

inductive Bop where | add | sub | mul | fdiv | mod | pow
inductive Cop where | eq | ne | lt | le | gt | ge | isn | nisn | isb | nisb | in_ | nin
inductive Ty where | int | bool | str | lst | tup | exc (n : String)
inductive Bi where | len | abs | int | str | tuple | list | all | any | min2 | max2 | repr | sorted | sum | bool | join | min3 | max3 | minL | maxL | sumS | maxD

def fitMul (a b : Int) : Bool := decide (a.natAbs < 2 ^ 64) || decide (b.natAbs < 2 ^ 64) || decide (a.natAbs.log2 + b.natAbs.log2 < 130000000)

def binV : Bop → Val → Val → Option Val
  | .add, .int a, .int b => some (.int (a + b))
  | .add, .bl a, .int b => some (.int ((if a then 1 else 0) + b))
  | .add, .int a, .bl b => some (.int (a + (if b then 1 else 0)))
  | .add, .str a, .str b => if a.length + b.length ≤ lim then some (.str (a ++ b)) else none
  | .add, .lst a, .lst b => if a.length + b.length ≤ lim then some (.lst (a ++ b)) else none
  | .add, .tup a, .tup b => if a.length + b.length ≤ lim then some (.tup (a ++ b)) else none
  | .sub, .int a, .int b => some (.int (a - b))
  | .sub, .bl a, .int b => some (.int ((if a then 1 else 0) - b))
  | .sub, .int a, .bl b => some (.int (a - (if b then 1 else 0)))
  | .mul, .int a, .int b => if fitMul a b then some (.int (a * b)) else none
  | .mul, .lst a, .int b => if -(2 ^ 63) ≤ b ∧ b < 2 ^ 63 ∧ a.length * b.toNat ≤ lim then some (.lst (List.replicate b.toNat a).flatten) else none
  | .mul, .tup a, .int b => if 2 ≤ b ∧ b ≤ 1000 ∧ a.length ≤ 1000 ∧ 0 < a.length then some (.tup (List.replicate b.toNat a).flatten) else none
  | .fdiv, .int a, .int b => if b = 0 ∨ 9000 ≤ b.natAbs.log2 then none else some (.int (a.fdiv b))
  | .mod, .int a, .int b => if b = 0 then none else some (.int (a.fmod b))
  | .pow, .int a, .int b => if 0 ≤ b ∧ b ≤ 1000000 ∧ a.natAbs < 2 ^ 64 then some (.int (a ^ b.toNat)) else none
  | _, _, _ => none

mutual
/-- how deep data is; none for what isn't data -/
def depV : Val → Option Nat
  | .non => some 0
  | .bl _ => some 0
  | .int _ => some 0
  | .str _ => some 0
  | .tup l => (depVs l).map (· + 1)
  | .lst l => (depVs l).map (· + 1)
  | .loc _ => none
  | .exn _ _ => none
  | .dct _ _ => none
def depVs : List Val → Option Nat
  | [] => some 0
  | v :: vs => match depV v, depVs vs with
    | some a, some b => some (max a b)
    | _, _ => none
end
def datV (v : Val) : Bool := match depV v with
  | some n => decide (n ≤ 60)
  | none => false

mutual
def eqV : Val → Val → Bool
  | .non, .non => true
  | .bl a, .bl b => a == b
  | .bl a, .int j => (if a then 1 else 0) == j
  | .int i, .bl b => i == (if b then 1 else 0)
  | .int i, .int j => i == j
  | .str x, .str y => x == y
  | .lst xs, .lst ys => eqVs xs ys
  | .tup xs, .tup ys => eqVs xs ys
  | _, _ => false
def eqVs : List Val → List Val → Bool
  | [], [] => true
  | x :: xs, y :: ys => eqV x y && eqVs xs ys
  | _, _ => false
end

def flatV : Val → Bool
  | .non => true
  | .bl _ => true
  | .int _ => true
  | .str _ => true
  | _ => false

/-- x += y of numbers -/
def augV : Bop → Val → Val → Option Val
  | .add, .int a, .int b => some (.int (a + b))
  | .sub, .int a, .int b => some (.int (a - b))
  | .mul, .int a, .int b => if fitMul a b then some (.int (a * b)) else none
  | _, _, _ => none
def isN : Val → Bool
  | .non => true
  | _ => false
def cmpV : Cop → Val → Val → Option Bool
  | .eq, a, b => if datV a && datV b then some (eqV a b) else none
  | .ne, a, b => if datV a && datV b then some (!eqV a b) else none
  | .lt, .int a, .int b => some (decide (a < b))
  | .le, .int a, .int b => some (decide (a ≤ b))
  | .gt, .int a, .int b => some (decide (b < a))
  | .ge, .int a, .int b => some (decide (b ≤ a))
  | .lt, .str a, .str b => some (decide (a.cps.toList < b.cps.toList))
  | .le, .str a, .str b => some (!decide (b.cps.toList < a.cps.toList))
  | .gt, .str a, .str b => some (decide (b.cps.toList < a.cps.toList))
  | .ge, .str a, .str b => some (!decide (a.cps.toList < b.cps.toList))
  | .isn, a, .non => some (isN a)
  | .nisn, a, .non => some (!isN a)
  | .isb, .bl a, .bl c => some (decide (a = c))
  | .nisb, .bl a, .bl c => some (!decide (a = c))
  | .in_, a, .lst l => if datV a && datV (.lst l) then some (l.any fun y => eqV y a) else none
  | .nin, a, .lst l => if datV a && datV (.lst l) then some (!l.any fun y => eqV y a) else none
  | .in_, a, .tup l => if flatV a && l.all flatV then some (l.any fun y => eqV y a) else none
  | .nin, a, .tup l => if flatV a && l.all flatV then some (!l.any fun y => eqV y a) else none
  | .in_, .str a, .str b => (match a.cps.toList with
    | [c] => some (decide (c ∈ b.cps.toList))
    | _ => none)
  | .nin, .str a, .str b => (match a.cps.toList with
    | [c] => some (!decide (c ∈ b.cps.toList))
    | _ => none)
  | _, _, _ => none

def truV : Val → Option Bool
  | .non => some false
  | .bl b => some b
  | .int i => some (i != 0)
  | .str x => some (x.length != 0)
  | .lst l => some (!l.isEmpty)
  | .tup l => some (!l.isEmpty)
  | _ => none

/-- the place of an index of any sign -/
def ixN (n : Nat) (i : Int) : Option Nat := if 0 ≤ i then (if i < n then some i.toNat else none) else if -(n : Int) ≤ i then some (i + n).toNat else none
def atI {α : Type} (xs : List α) (i : Int) : Option α := (ixN xs.length i).bind fun j => xs[j]?
def ixV (S : Store) : Val → Val → Option Val
  | .lst l, .int i => atI l i
  | .tup l, .int i => atI l i
  | .str x, .int i => (atI x.cps.toList i).map fun c => .str ⟨#[c]⟩
  | .loc n, .int i => match S[n]? with
    | some (.lst l) => atI l i
    | some (.ro l) => atI l i
    | _ => none
  | _, _ => none

/-- an end of a slice -/
def sIx (n : Nat) (d : Nat) : Option Int → Nat
  | none => d
  | some i => if i < 0 then (i + n).toNat else min i.toNat n
def cutL {α : Type} (xs : List α) (lo hi : Option Int) : List α := (xs.drop (sIx xs.length 0 lo)).take (sIx xs.length xs.length hi - sIx xs.length 0 lo)
def slV (S : Store) : Val → Option Int → Option Int → Option Val
  | .loc n, a, b => match S[n]? with
    | some (.lst l) => some (.lst (cutL l a b))
    | some (.ro l) => some (.lst (cutL l a b))
    | _ => none
  | .lst l, a, b => some (.lst (cutL l a b))
  | .tup l, a, b => some (.tup (cutL l a b))
  | .str x, a, b => some (.str ⟨(cutL x.cps.toList a b).toArray⟩)
  | _, _, _ => none

/-- Python's own exceptions: each with what it stands under -/
def overB : String → List String
  | "ValueError" => ["ValueError", "Exception"]
  | "KeyError" => ["KeyError", "LookupError", "Exception"]
  | "IndexError" => ["IndexError", "LookupError", "Exception"]
  | "LookupError" => ["LookupError", "Exception"]
  | "ZeroDivisionError" => ["ZeroDivisionError", "ArithmeticError", "Exception"]
  | "OverflowError" => ["OverflowError", "ArithmeticError", "Exception"]
  | "TypeError" => ["TypeError", "Exception"]
  | _ => []

/-- eb: the base of an own exception class -/
def isaV (eb : String → Option String) : Ty → Val → Option Bool
  | .int, .int _ => some true
  | .int, .bl _ => some true
  | .bool, .bl _ => some true
  | .str, .str _ => some true
  | .lst, .lst _ => some true
  | .lst, .loc _ => none
  | .tup, .tup _ => some true
  | .exc n, .exn c _ => match eb c with
    | some b => some (n == c || (overB b).contains n)
    | none => none
  | _, .loc _ => none
  | _, .exn _ _ => none
  | _, .dct _ _ => none
  | _, _ => some false
def isasV (eb : String → Option String) (v : Val) : List Ty → Option Bool
  | [] => some false
  | t :: ts => match isaV eb t v with
    | some true => some true
    | some false => isasV eb v ts
    | none => none

def blsV : List Val → Option (List Bool)
  | [] => some []
  | .bl b :: r => (blsV r).map (b :: ·)
  | _ => none
def intsV : List Val → Option (List Int)
  | [] => some []
  | .int b :: r => (intsV r).map (b :: ·)
  | _ => none
def strsV : List Val → Option (List Str)
  | [] => some []
  | .str b :: r => (strsV r).map (b :: ·)
  | _ => none
mutual
def toD : Val → PyData
  | .non => .none
  | .bl b => .bool b
  | .int i => .int i
  | .str x => .str x
  | .tup l => .tuple (toDs l)
  | .lst l => .list (toDs l)
  | .loc _ => .none
  | .exn _ _ => .none
  | .dct _ _ => .none
def toDs : List Val → List PyData
  | [] => []
  | v :: vs => toD v :: toDs vs
end
/-- the greatest, the least, the sorted -/
def maxI : List Int → Option Int
  | [] => none
  | [x] => some x
  | x :: y :: r => (maxI (y :: r)).map fun m => if m > x then m else x
def minI : List Int → Option Int
  | [] => none
  | [x] => some x
  | x :: y :: r => (minI (y :: r)).map fun m => if m < x then m else x
def insI (x : Int) : List Int → List Int
  | [] => [x]
  | y :: r => if x ≤ y then x :: y :: r else y :: insI x r
def sortI (l : List Int) : List Int := l.foldr insI []
def leS (a b : Str) : Bool := !decide (b.cps.toList < a.cps.toList)
def insS (x : Str) : List Str → List Str
  | [] => [x]
  | y :: r => if leS x y then x :: y :: r else y :: insS x r
def sortS (l : List Str) : List Str := l.foldr insS []
/-- can be shown, in a text that fits -/
def reprOk (d : PyData) : Bool := d.showable && decide (d.shown.length ≤ lim) && PyData.strOk d.shown
def reprV (v : Val) : Option Val := if datV v && reprOk (toD v) then some (.str (toD v).shown) else none
def biV (S : Store) : Bi → List Val → Option Val
  | .len, [.loc n] => match S[n]? with
    | some (.lst l) => some (.int l.length)
    | some (.ro l) => some (.int l.length)
    | _ => none
  | .len, [.lst l] => some (.int l.length)
  | .len, [.tup l] => some (.int l.length)
  | .len, [.str x] => some (.int x.length)
  | .abs, [.int i] => some (.int (if i < 0 then -i else i))
  | .int, [.int i] => some (.int i)
  | .int, [.bl b] => some (.int (if b then 1 else 0))
  | .bool, [.int i] => some (.bl (i != 0))
  | .bool, [.bl b] => some (.bl b)
  | .str, [.int i] => if i.natAbs.log2 < 1920 then some (.str (toString i)) else none
  | .str, [.bl b] => some (.str (if b then "True" else "False"))
  | .tuple, [.lst l] => some (.tup l)
  | .tuple, [.tup l] => some (.tup l)
  | .list, [.lst l] => some (.lst l)
  | .list, [.tup l] => some (.lst l)
  | .all, [.lst l] => (blsV l).map fun bs => .bl (bs.all id)
  | .any, [.lst l] => (blsV l).map fun bs => .bl (bs.any id)
  | .min2, [.int a, .int b] => some (.int (if b < a then b else a))
  | .max2, [.int a, .int b] => some (.int (if b > a then b else a))
  | .join, [.str s, .lst l] => (strsV l).bind fun ys => if (ys.map (·.length)).sum + ys.length * s.length ≤ lim then some (.str (Str.join s ys)) else none
  | .sum, [.lst l] => (intsV l).map fun ns => .int ns.sum
  | .repr, [v] => reprV v
  | .min3, [.int a, .int b, .int c] => some (.int (if c < (if b < a then b else a) then c else (if b < a then b else a)))
  | .max3, [.int a, .int b, .int c] => some (.int (if c > (if b > a then b else a) then c else (if b > a then b else a)))
  | .minL, [.lst l] => (intsV l).bind fun ns => (minI ns).map .int
  | .maxL, [.lst l] => (intsV l).bind fun ns => (maxI ns).map .int
  | .sorted, [.lst l] => (match intsV l with
    | some ns => some (.lst ((sortI ns).map .int))
    | none => (strsV l).bind fun xs => if xs.length < 64 then some (.lst ((sortS xs).map .str)) else none)
  | .sumS, [.lst l, .int d] => (intsV l).map fun ns => .int (d + ns.sum)
  | .maxD, [.lst l, .int d] => (intsV l).map fun ns => .int ((maxI ns).getD d)
  | _, _ => none

/-- a dict's value at a text -/
def lookK (ks : List Str) (vs : List Val) (y : Str) : Option Val := (ks.zip vs).lookup y
def dgetV (ks : List Str) (vs : List Val) (y : Str) : List Val → Option Val
  | [] => some ((lookK ks vs y).getD .non)
  | [w] => some ((lookK ks vs y).getD w)
  | _ => none
/-- methods of texts, of one argument -/
inductive Sm where | strip | split | partition | starts
def smN : Sm → String
  | .strip => "strip"
  | .split => "split"
  | .partition => "partition"
  | .starts => "startswith"
def okS (x : Str) : Bool := decide (x.length ≤ lim) && PyData.strOk x
def smV : Sm → Str → Str → Option Val
  | .strip, a, b => if okS (Txt.stripChars a b) then some (.str (Txt.stripChars a b)) else none
  | .starts, a, b => some (.bl (Txt.startswith a b))
  | .split, a, b => if (b.length == 0) = false ∧ a.length + 2 ≤ lim ∧ (Txt.split a b).all okS = true then some (.lst ((Txt.split a b).map .str)) else none
  | .partition, a, b => if (b.length == 0) = false ∧ okS (Txt.partition a b).1 = true ∧ okS (Txt.partition a b).2.1 = true ∧ okS (Txt.partition a b).2.2 = true then some (.tup [.str (Txt.partition a b).1, .str (Txt.partition a b).2.1, .str (Txt.partition a b).2.2]) else none
def rangeL (a : Int) : Nat → List Val
  | 0 => []
  | n + 1 => .int a :: rangeL (a + 1) n
/-- list(range(..)) -/
def lrgV : List Val → Option Val
  | [.int n] => if -(2 ^ 62) ≤ n ∧ n < 2 ^ 62 ∧ n ≤ lim then some (.lst (rangeL 0 n.toNat)) else none
  | [.int a, .int b] => if -(2 ^ 62) ≤ a ∧ a < 2 ^ 62 ∧ -(2 ^ 62) ≤ b ∧ b < 2 ^ 62 ∧ b - a ≤ lim then some (.lst (rangeL a (b - a).toNat)) else none
  | _ => none
/-- where a parameter's value comes from: the i-th written argument, or a constant -/
inductive Src where | a (i : Nat) | d (v : Val)
def srcV (vs : List Val) : Src → Option Val
  | .a i => vs[i]?
  | .d v => some v
def srcVs (vs : List Val) : List Src → Option (List Val)
  | [] => some []
  | s :: r => match srcV vs s, srcVs vs r with
    | some v, some l => some (v :: l)
    | _, _ => none

/-- targets -/
inductive Pat where
  | v (i : Nat)
  | tup (ps : List Pat)
  | star (ps : List Pat) (i : Nat)
abbrev Env := List (Option Val)
def setE (ρ : Env) (i : Nat) (v : Val) : Env := ρ.set i (some v)
mutual
def bindP : Pat → Val → Env → Option Env
  | .v i, v, ρ => some (setE ρ i v)
  | .tup ps, .tup l, ρ => if l.length = ps.length then bindPs ps l ρ else none
  | .star ps i, .tup l, ρ => if ps.length ≤ l.length then (bindPs ps (l.take ps.length) ρ).map fun ρ' => setE ρ' i (.lst (l.drop ps.length)) else none
  | .star ps i, .lst l, ρ => if ps.length ≤ l.length then (bindPs ps (l.take ps.length) ρ).map fun ρ' => setE ρ' i (.lst (l.drop ps.length)) else none
  | _, _, _ => none
def bindPs : List Pat → List Val → Env → Option Env
  | [], [], ρ => some ρ
  | p :: ps, v :: vs, ρ => (bindP p v ρ).bind fun ρ' => bindPs ps vs ρ'
  | _, _, _ => none
end

/-- terms -/
inductive IE where
  | lv (i : Nat)
  | cst (v : Val)
  | gv (x : String) (v : Val)
  | bin (o : Bop) (a b : IE)
  | neg (a : IE)
  | cmp (o : Cop) (a b : IE)
  | chain (o1 o2 : Cop) (a b c : IE)
  | not (a : IE)
  | and (es : List IE)
  | or (es : List IE)
  | ite (c a b : IE)
  | tup (es : List IE)
  | lst (es : List IE)
  | box (es : List IE)
  | ix (a i : IE)
  | sl (a : IE) (lo hi : List IE)
  | call (f : String) (es : List IE)
  | callB (f : String) (es : List IE) (sh : Nat) (src : List Src)
  | bi (b : Bi) (es : List IE)
  | comp (itk : Nat) (its : List IE) (p : Pat) (cs : List IE) (e : IE)
  | comp2 (itk : Nat) (its : List IE) (p : Pat) (itk2 : Nat) (its2 : List IE) (p2 : Pat) (cs : List IE) (e : IE)
  | isa (e : IE) (ts : List Ty)
  | mkx (c : String) (e : IE)
  | fldx (e : IE) (f : String)
  | isx (e : IE) (n : String)
  | sm1 (m : Sm) (o e : IE)
  | dctE (ks : List Str) (es : List IE)
  | dget (d k : IE) (x : List IE)
  | dsub (d k : IE)
  | sm0 (o : IE)
  | rev (a : IE)
  | lrg (es : List IE)
  | fld (e : IE) (f : String)
  | dix (x : String) (kvs : List (Str × Val)) (k : IE)
inductive IS where
  | expr (e : IE)
  | asg (p : Pat) (e : IE)
  | own (i : Nat) (e : IE)
  | share (i : Nat)
  | par (is : List (Nat × Bool)) (es : List IE)
  | aug (i : Nat) (o : Bop) (e : IE)
  | setL (i : Nat) (k e : IE)
  | setB (b k e : IE)
  | app (i : Nat) (e : IE)
  | pop (i : Nat) (k : List IE)
  | popTo (j i : Nat) (k : List IE)
  | ins (i : Nat) (k e : IE)
  | set2 (i : Nat) (k1 k2 e1 e2 : IE)
  | ret (e : IE)
  | retN
  | ite (c : IE) (a b : List IS)
  | forr (itk : Nat) (its : List IE) (p : Pat) (b : List IS)
  | whil (c : IE) (b : List IS)
  | brk | cnt | pass
  | raise (e : IE)
  | tryx (i : Nat) (e : IE) (c : String) (n j : Nat)

/-- what a loop walks: 0 a list or tuple or text, 1 range(n), 2 range(a, b), 3 range(a, b, c), 4 zip, 5 enumerate -/
def rangeD (a c : Int) : Nat → List Val
  | 0 => []
  | n + 1 => .int a :: rangeD (a + c) c n
def enumL (k : Int) : List Val → List Val
  | [] => []
  | v :: r => .tup [.int k, v] :: enumL (k + 1) r
def zipL : List Val → List Val → List Val
  | a :: r, b :: s => .tup [a, b] :: zipL r s
  | _, _ => []
def itV (S : Store) : Nat → List Val → Option (List Val)
  | 0, [.lst l] => some l
  | 0, [.tup l] => some l
  | 0, [.str x] => some (x.cps.toList.map fun c => .str ⟨#[c]⟩)
  | 1, [.int n] => if -(2 ^ 62) ≤ n ∧ n ≤ lim then some (rangeL 0 n.toNat) else none
  | 2, [.int a, .int b] => if -(2 ^ 62) ≤ a ∧ a < 2 ^ 62 ∧ -(2 ^ 62) ≤ b ∧ b < 2 ^ 62 ∧ b - a ≤ lim then some (rangeL a (b - a).toNat) else none
  | 4, [.lst x, .lst y] => some (zipL x y)
  | 4, [.tup x, .tup y] => some (zipL x y)
  | 5, [.lst x] => some (enumL 0 x)
  | _, _ => none

def compGo (f : Val → Store → Res (List Val)) : List Val → Store → Res (List Val)
  | [], S => .ok [] S
  | v :: r, S => (match f v S with
    | .ok ys S1 => (match compGo f r S1 with
      | .ok zs S2 => .ok (ys ++ zs) S2
      | _ => .bad)
    | _ => .bad)

def wipeE (ρ : Env) : List Nat → Env
  | [] => ρ
  | i :: r => (wipeE ρ r).set i none
mutual
def Pat.vars : Pat → List Nat
  | .v i => [i]
  | .tup ps => Pat.varsL ps
  | .star ps i => Pat.varsL ps ++ [i]
def Pat.varsL : List Pat → List Nat
  | [] => []
  | p :: ps => p.vars ++ Pat.varsL ps
end

/-- does an exception of the class c stand under n? -/
def undX (eb : String → Option String) (c n : String) : Option Bool := match eb c with
  | some b => some (c == n || (overB b).contains n)
  | none => none
structure Sig where
  eb : String → Option String
  xf : String → Option String
section
variable (sg : Sig) (cf : String → List Val → Store → Res Val)
mutual
def evE (ρ : Env) : IE → Store → Res Val
  | .lv i, S => (match ρ[i]? with
    | some (some v) => .ok v S
    | _ => .bad)
  | .cst v, S => .ok v S
  | .gv _ v, S => .ok v S
  | .bin o a b, S => (evE ρ a S).bind fun x S1 => (evE ρ b S1).bind fun y S2 => .of (binV o x y) S2
  | .neg a, S => (evE ρ a S).bind fun x S1 => (match x with
    | .int i => .ok (.int (-i)) S1
    | _ => .bad)
  | .cmp o a b, S => (evE ρ a S).bind fun x S1 => (evE ρ b S1).bind fun y S2 => .of ((cmpV o x y).map .bl) S2
  | .chain o1 o2 a b c, S => (evE ρ a S).bind fun x S1 => (evE ρ b S1).bind fun y S2 => (match cmpV o1 x y with
    | some true => (evE ρ c S2).bind fun z S3 => .of ((cmpV o2 y z).map .bl) S3
    | some false => .ok (.bl false) S2
    | none => .bad)
  | .not a, S => (evE ρ a S).bind fun v S1 => .of ((truV v).map fun b => .bl (!b)) S1
  | .and es, S => evAnd ρ es S
  | .or es, S => evOr ρ es S
  | .ite c a b, S => (evE ρ c S).bind fun v S1 => (match truV v with
    | some true => evE ρ a S1
    | some false => evE ρ b S1
    | none => .bad)
  | .tup es, S => (evEs ρ es S).bind fun vs S1 => .ok (.tup vs) S1
  | .lst es, S => (evEs ρ es S).bind fun vs S1 => .ok (.lst vs) S1
  | .box es, S => (evEs ρ es S).bind fun vs S1 => .ok (.loc S1.length) (S1 ++ [.lst vs])
  | .ix a i, S => (evE ρ a S).bind fun x S1 => (evE ρ i S1).bind fun y S2 => .of (ixV S2 x y) S2
  | .sl a lo hi, S => (evE ρ a S).bind fun x S1 => (evO ρ lo S1).bind fun l S2 => (evO ρ hi S2).bind fun h S3 => .of (slV S3 x l h) S3
  | .call f es, S => (evEs ρ es S).bind fun vs S1 => cf f vs S1
  | .callB f es _ src, S => (evEs ρ es S).bind fun vs S1 => (match srcVs vs src with
    | some ws => cf f ws S1
    | none => .bad)
  | .bi b es, S => (evEs ρ es S).bind fun vs S1 => .of (biV S1 b vs) S1
  | .comp k its p cs e, S => ((evEs ρ its S).bind fun vs S1 => .of (itV S1 k vs) S1).bind fun xs S1 =>
    (compGo (fun v S2 => (match bindP p v (wipeE ρ p.vars) with
      | some ρ' => (evTs ρ' cs S2).bind fun c S3 => if c then (evE ρ' e S3).bind fun y S4 => .ok [y] S4 else .ok [] S3
      | none => .bad)) xs S1).bind fun ys S2 => if ys.length ≤ lim then .ok (.lst ys) S2 else .bad
  | .comp2 k its p k2 its2 p2 cs e, S => ((evEs ρ its S).bind fun vs S1 => .of (itV S1 k vs) S1).bind fun xs S1 =>
    (compGo (fun v S2 => (match bindP p v (wipeE (wipeE ρ p.vars) p2.vars) with
      | some ρ' => ((evEs ρ' its2 S2).bind fun ws S3 => .of (itV S3 k2 ws) S3).bind fun ys S3 =>
          compGo (fun u S4 => (match bindP p2 u ρ' with
          | some ρ2 => (evTs ρ2 cs S4).bind fun c S5 => if c then (evE ρ2 e S5).bind fun y S6 => .ok [y] S6 else .ok [] S5
          | none => .bad)) ys S3
      | none => .bad)) xs S1).bind fun ys S2 => if ys.length ≤ lim then .ok (.lst ys) S2 else .bad
  | .isa e ts, S => (evE ρ e S).bind fun v S1 => .of ((isasV sg.eb v ts).map .bl) S1
  | .mkx c e, S => (evE ρ e S).bind fun v S1 => .ok (.exn c v) S1
  | .fldx e f, S => (evE ρ e S).bind fun v S1 => (match v with
    | .exn c x => if sg.xf c = some f then .ok x S1 else .bad
    | _ => .bad)
  | .dctE ks es, S => (evEs ρ es S).bind fun vs S1 => if ks.Nodup ∧ ks.length = vs.length ∧ 0 < ks.length ∧ ks.length ≤ 15 then .ok (.dct ks vs) S1 else .bad
  | .dget d k x, S => (evE ρ d S).bind fun v S1 => (match v with
    | .dct ks vs => (evE ρ k S1).bind fun u S2 => (match u with
      | .str y => (evEs ρ x S2).bind fun ws S3 => .of (dgetV ks vs y ws) S3
      | _ => .bad)
    | _ => .bad)
  | .dsub d k, S => (evE ρ d S).bind fun v S1 => (match v with
    | .dct ks vs => (evE ρ k S1).bind fun u S2 => (match u with
      | .str y => .of (lookK ks vs y) S2
      | _ => .bad)
    | _ => .bad)
  | .sm0 o, S => (evE ρ o S).bind fun v S1 => (match v with
    | .str a => if a.length ≤ 5592405 ∧ okS (Txt.upper a) = true then .ok (.str (Txt.upper a)) S1 else .bad
    | _ => .bad)
  | .rev a, S => (evE ρ a S).bind fun v S1 => (match v with
    | .lst l => .ok (.lst l.reverse) S1
    | _ => .bad)
  | .lrg es, S => (evEs ρ es S).bind fun vs S1 => .of (lrgV vs) S1
  | .sm1 m o e, S => (evE ρ o S).bind fun v S1 => (match v with
    | .str a => (evE ρ e S1).bind fun w S2 => (match w with
      | .str b => .of (smV m a b) S2
      | _ => .bad)
    | _ => .bad)
  | .isx e n, S => (evE ρ e S).bind fun v S1 => (match v with
    | .exn c _ => .of ((undX sg.eb c n).map .bl) S1
    | _ => .bad)
  | .fld e f, S => (evE ρ e S).bind fun v S1 => (match v with
    | .loc n => (match S1[n]? with
      | some (.ins _ fs) => .of (fs.lookup f) S1
      | _ => .bad)
    | _ => .bad)
  | .dix _ kvs k, S => (evE ρ k S).bind fun v S1 => (match v with
    | .str x => .of (kvs.lookup x) S1
    | _ => .bad)
def evEs (ρ : Env) : List IE → Store → Res (List Val)
  | [], S => .ok [] S
  | e :: es, S => (evE ρ e S).bind fun v S1 => (evEs ρ es S1).bind fun vs S2 => .ok (v :: vs) S2
/-- an end of a slice: nothing, or a number or None -/
def evO (ρ : Env) : List IE → Store → Res (Option Int)
  | [], S => .ok none S
  | e :: _, S => (evE ρ e S).bind fun v S1 => (match v with
    | .int i => .ok (some i) S1
    | _ => .bad)
def evAnd (ρ : Env) : List IE → Store → Res Val
  | [], _ => .bad
  | e :: es, S => (evE ρ e S).bind fun v S1 => (match es with
    | [] => .ok v S1
    | _ :: _ => (match v with
      | .bl true => evAnd ρ es S1
      | .bl false => .ok (.bl false) S1
      | _ => .bad))
def evOr (ρ : Env) : List IE → Store → Res Val
  | [], _ => .bad
  | e :: es, S => (evE ρ e S).bind fun v S1 => (match es with
    | [] => .ok v S1
    | _ :: _ => (match v with
      | .bl false => evOr ρ es S1
      | .bl true => .ok (.bl true) S1
      | _ => .bad))
/-- tests, from the left -/
def evTs (ρ : Env) : List IE → Store → Res Bool
  | [], S => .ok true S
  | e :: es, S => (evE ρ e S).bind fun v S1 => (match truV v with
    | some true => evTs ρ es S1
    | some false => .ok false S1
    | none => .bad)
end
/-- as a test -/
def evT (ρ : Env) (e : IE) (S : Store) : Res Bool := (evE sg cf ρ e S).bind fun v S1 => .of (truV v) S1

/-- behind a statement -/
inductive Out where
  | nx (ρ : Env) (S : Store)
  | rt (v : Val) (S : Store)
  | bk (ρ : Env) (S : Store)
  | ct (ρ : Env) (S : Store)
  | ex (x : Val) (ρ : Env) (S : Store)
  | bad
def Out.then (o : Out) (f : Env → Store → Out) : Out := match o with
  | .nx ρ S => f ρ S
  | o => o
@[simp] theorem Out.then_nx (ρ : Env) (S : Store) (f : Env → Store → Out) : (Out.nx ρ S).then f = f ρ S := rfl
@[simp] theorem Out.then_rt (v : Val) (S : Store) (f : Env → Store → Out) : (Out.rt v S).then f = .rt v S := rfl
@[simp] theorem Out.then_bk (ρ : Env) (S : Store) (f : Env → Store → Out) : (Out.bk ρ S).then f = .bk ρ S := rfl
@[simp] theorem Out.then_ct (ρ : Env) (S : Store) (f : Env → Store → Out) : (Out.ct ρ S).then f = .ct ρ S := rfl
@[simp] theorem Out.then_ex (x : Val) (ρ : Env) (S : Store) (f : Env → Store → Out) : (Out.ex x ρ S).then f = .ex x ρ S := rfl
@[simp] theorem Out.then_bad (f : Env → Store → Out) : Out.bad.then f = .bad := rfl
/-- what an expression came to, then -/
def Res.on {α : Type} (r : Res α) (ρ : Env) (f : α → Store → Out) : Out := match r with
  | .ok a S => f a S
  | .exc x S => .ex x ρ S
  | .bad => .bad
@[simp] theorem Res.on_ok {α : Type} (a : α) (S : Store) (ρ : Env) (f : α → Store → Out) : (Res.ok a S).on ρ f = f a S := rfl
@[simp] theorem Res.on_exc {α : Type} (x : Val) (S : Store) (ρ : Env) (f : α → Store → Out) : (Res.exc x S : Res α).on ρ f = .ex x ρ S := rfl
@[simp] theorem Res.on_bad {α : Type} (ρ : Env) (f : α → Store → Out) : (Res.bad : Res α).on ρ f = .bad := rfl

/-- a loop over items -/
def forGo (f : Val → Env → Store → Out) : List Val → Env → Store → Out
  | [], ρ, S => .nx ρ S
  | v :: r, ρ, S => match f v ρ S with
    | .nx ρ' S' => forGo f r ρ' S'
    | .ct ρ' S' => forGo f r ρ' S'
    | .bk ρ' S' => .nx ρ' S'
    | o => o
/-- a while: n turns at most -/
def whileIt (c : Env → Store → Res Bool) (b : Env → Store → Out) : Nat → Env → Store → Option Out
  | 0, _, _ => none
  | n + 1, ρ, S => match c ρ S with
    | .ok true S1 => (match b ρ S1 with
      | .nx ρ' S' => whileIt c b n ρ' S'
      | .ct ρ' S' => whileIt c b n ρ' S'
      | .bk ρ' S' => some (.nx ρ' S')
      | o => some o)
    | .ok false S1 => some (.nx ρ S1)
    | .exc x S1 => some (.ex x ρ S1)
    | .bad => some .bad
theorem whileIt_mono (c : Env → Store → Res Bool) (b : Env → Store → Out) : ∀ {n m : Nat} {ρ : Env} {S : Store} {o : Out}, n ≤ m → whileIt c b n ρ S = some o → whileIt c b m ρ S = some o
  | 0, _, _, _, _, _, h => by simp [whileIt] at h
  | n + 1, 0, _, _, _, hm, _ => by omega
  | n + 1, m + 1, ρ, S, o, hm, h => by
    unfold whileIt at h ⊢
    cases e : c ρ S with
    | ok k S1 =>
      rw [e] at h
      cases k with
      | true =>
        simp only at h ⊢
        cases e2 : b ρ S1 <;> rw [e2] at h <;> simp only at h ⊢ <;> first | exact whileIt_mono c b (by omega) h | exact h
      | false => exact h
    | exc x S1 => rw [e] at h; exact h
    | bad => rw [e] at h; exact h
open Classical in
noncomputable def whileM (c : Env → Store → Res Bool) (b : Env → Store → Out) (ρ : Env) (S : Store) : Out :=
  if h : ∃ n o, whileIt c b n ρ S = some o then (Classical.choose_spec h).choose else .bad
theorem whileM_of {c : Env → Store → Res Bool} {b : Env → Store → Out} {n : Nat} {ρ : Env} {S : Store} {o : Out} (h : whileIt c b n ρ S = some o) : whileM c b ρ S = o := by
  have hx : ∃ n o, whileIt c b n ρ S = some o := ⟨n, o, h⟩
  unfold whileM
  rw [dif_pos hx]
  have q := (Classical.choose_spec hx).choose_spec
  have a := whileIt_mono c b (Nat.le_max_left n (Classical.choose hx)) h
  have b' := whileIt_mono c b (Nat.le_max_right n (Classical.choose hx)) q
  rw [a] at b'
  exact (Option.some.inj b').symm
theorem whileM_it {c : Env → Store → Res Bool} {b : Env → Store → Out} {ρ : Env} {S : Store} (h : whileM c b ρ S ≠ .bad) : ∃ n, whileIt c b n ρ S = some (whileM c b ρ S) := by
  by_cases hx : ∃ n o, whileIt c b n ρ S = some o
  · obtain ⟨n, o, e⟩ := hx
    exact ⟨n, by rw [whileM_of e]; exact e⟩
  · exfalso
    apply h
    unfold whileM
    rw [dif_neg hx]
theorem whileM_eq (c : Env → Store → Res Bool) (b : Env → Store → Out) (ρ : Env) (S : Store) : whileM c b ρ S = (c ρ S).on ρ fun k S1 => if k then (match b ρ S1 with
      | .nx ρ' S' => whileM c b ρ' S'
      | .ct ρ' S' => whileM c b ρ' S'
      | .bk ρ' S' => .nx ρ' S'
      | o => o) else .nx ρ S1 := by
  have step : ∀ (o : Out), (∀ n, whileIt c b (n + 1) ρ S = some o) → whileM c b ρ S = o := fun o h => whileM_of (h 0)
  have go : ∀ (ρ' : Env) (S' : Store), (∀ n, whileIt c b (n + 1) ρ S = whileIt c b n ρ' S') → whileM c b ρ S = whileM c b ρ' S' := fun ρ' S' h => by
    by_cases hx : ∃ n o, whileIt c b n ρ' S' = some o
    · obtain ⟨n, o, e⟩ := hx
      rw [whileM_of e]
      exact whileM_of (n := n + 1) (by rw [h n]; exact e)
    · have hy : ¬ ∃ n o, whileIt c b n ρ S = some o := by
        rintro ⟨n, o, e⟩
        cases n with
        | zero => simp [whileIt] at e
        | succ n => exact hx ⟨n, o, by rw [← h n]; exact e⟩
      unfold whileM
      rw [dif_neg hx, dif_neg hy]
  cases e : c ρ S with
  | ok k S1 =>
    cases k with
    | true =>
      simp only [Res.on_ok, if_true]
      cases e2 : b ρ S1 with
      | nx ρ' S' => exact go ρ' S' fun n => by rw [whileIt, e]; simp only [e2]
      | ct ρ' S' => exact go ρ' S' fun n => by rw [whileIt, e]; simp only [e2]
      | bk ρ' S' => exact step _ fun n => by rw [whileIt, e]; simp only [e2]
      | rt v S' => exact step _ fun n => by rw [whileIt, e]; simp only [e2]
      | ex x ρ' S' => exact step _ fun n => by rw [whileIt, e]; simp only [e2]
      | bad => exact step _ fun n => by rw [whileIt, e]; simp only [e2]
    | false =>
      simp only [Res.on_ok]
      exact step _ fun n => by rw [whileIt, e]; simp
  | exc x S1 => exact step _ fun n => by rw [whileIt, e]; rfl
  | bad => exact step _ fun n => by rw [whileIt, e]; rfl

/-- ρ's i-th is a list -/
def lstE (ρ : Env) (i : Nat) : Option (List Val) := match ρ[i]? with
  | some (some (.lst l)) => some l
  | _ => none
def popL (l : List Val) : Option Int → Option (Val × List Val)
  | none => l.getLast?.map fun v => (v, l.dropLast)
  | some n => if -(2 ^ 63) ≤ n ∧ n < 2 ^ 63 then (ixN l.length n).bind fun m => l[m]?.map fun v => (v, l.eraseIdx m) else none
/-- several names at once; those that become one's own are lists -/
def parE : List (Nat × Bool) → List Val → Env → Option Env
  | [], [], ρ => some ρ
  | (i, false) :: is, v :: vs, ρ => parE is vs (setE ρ i v)
  | (i, true) :: is, .lst l :: vs, ρ => parE is vs (setE ρ i (.lst l))
  | _, _, _ => none
mutual
noncomputable def evS : IS → Env → Store → Out
  | .expr e, ρ, S => (evE sg cf ρ e S).on ρ fun _ S1 => .nx ρ S1
  | .asg p e, ρ, S => (evE sg cf ρ e S).on ρ fun v S1 => (match bindP p v ρ with
    | some ρ' => .nx ρ' S1
    | none => .bad)
  | .own i e, ρ, S => (evE sg cf ρ e S).on ρ fun v S1 => (match v with
    | .lst l => .nx (setE ρ i (.lst l)) S1
    | _ => .bad)
  | .share _, ρ, S => .nx ρ S
  | .par is es, ρ, S => (evEs sg cf ρ es S).on ρ fun vs S1 => (match parE is vs ρ with
    | some ρ' => .nx ρ' S1
    | none => .bad)
  | .aug i o e, ρ, S => (match ρ[i]? with
    | some (some x) => (evE sg cf ρ e S).on ρ fun y S1 => (match augV o x y with
      | some z => .nx (setE ρ i z) S1
      | none => .bad)
    | _ => .bad)
  | .setL i k e, ρ, S => (match lstE ρ i with
    | some l => (evE sg cf ρ e S).on ρ fun v S1 => (evE sg cf ρ k S1).on ρ fun j S2 => (match j with
      | .int j => (match ixN l.length j with
        | some n => .nx (setE ρ i (.lst (l.set n v))) S2
        | none => .bad)
      | _ => .bad)
    | none => .bad)
  | .setB b k e, ρ, S => (evE sg cf ρ e S).on ρ fun v S1 => (evE sg cf ρ b S1).on ρ fun x S2 => (evE sg cf ρ k S2).on ρ fun j S3 => (match x, j with
    | .loc n, .int j => (match S3[n]? with
      | some (.lst l) => (match ixN l.length j with
        | some m => .nx ρ (S3.set n (.lst (l.set m v)))
        | none => .bad)
      | _ => .bad)
    | _, _ => .bad)
  | .app i e, ρ, S => (match lstE ρ i with
    | some l => (evE sg cf ρ e S).on ρ fun v S1 => if l.length < lim then .nx (setE ρ i (.lst (l ++ [v]))) S1 else .bad
    | none => .bad)
  | .pop i k, ρ, S => (match lstE ρ i with
    | some l => (evO sg cf ρ k S).on ρ fun n S1 => (match popL l n with
      | some (_, l') => .nx (setE ρ i (.lst l')) S1
      | none => .bad)
    | none => .bad)
  | .popTo j i k, ρ, S => (match lstE ρ i with
    | some l => (evO sg cf ρ k S).on ρ fun n S1 => (match popL l n with
      | some (v, l') => .nx (setE (setE ρ i (.lst l')) j v) S1
      | none => .bad)
    | none => .bad)
  | .ins i k e, ρ, S => (match lstE ρ i with
    | some l => (evE sg cf ρ k S).on ρ fun j S1 => (evE sg cf ρ e S1).on ρ fun v S2 => (match j with
      | .int j => if 0 ≤ j ∧ j < 2 ^ 62 ∧ l.length < lim then .nx (setE ρ i (.lst (l.take j.toNat ++ [v] ++ l.drop j.toNat))) S2 else .bad
      | _ => .bad)
    | none => .bad)
  | .set2 i k1 k2 e1 e2, ρ, S => (match lstE ρ i with
    | some l => (evE sg cf ρ (.tup [e1, e2]) S).on ρ fun v S1 => (match v with
      | .tup [v1, v2] => (evE sg cf ρ k1 S1).on ρ fun j1 S2 => (match j1 with
        | .int j1 => (match ixN l.length j1 with
          | some n1 => (evE sg cf (setE ρ i (.lst (l.set n1 v1))) k2 S2).on (setE ρ i (.lst (l.set n1 v1))) fun j2 S3 => (match j2 with
            | .int j2 => (match ixN l.length j2 with
              | some n2 => .nx (setE (setE ρ i (.lst (l.set n1 v1))) i (.lst ((l.set n1 v1).set n2 v2))) S3
              | none => .bad)
            | _ => .bad)
          | none => .bad)
        | _ => .bad)
      | _ => .bad)
    | none => .bad)
  | .ret e, ρ, S => (evE sg cf ρ e S).on ρ fun v S1 => .rt v S1
  | .retN, _, S => .rt .non S
  | .ite c a b, ρ, S => (evT sg cf ρ c S).on ρ fun k S1 => if k then evSs a ρ S1 else evSs b ρ S1
  | .forr k its p b, ρ, S => ((evEs sg cf ρ its S).bind fun vs S1 => .of (itV S1 k vs) S1).on ρ fun xs S1 =>
    forGo (fun v ρ S => (match bindP p v ρ with
      | some ρ' => evSs b ρ' S
      | none => .bad)) xs ρ S1
  | .whil c b, ρ, S => whileM (fun ρ S => evT sg cf ρ c S) (fun ρ S => evSs b ρ S) ρ S
  | .brk, ρ, S => .bk ρ S
  | .cnt, ρ, S => .ct ρ S
  | .pass, ρ, S => .nx ρ S
  | .raise e, ρ, S => (evE sg cf ρ e S).on ρ fun v S1 => (match v with
    | .exn c x => .ex (.exn c x) ρ S1
    | _ => .bad)
  | .tryx i e c n j, ρ, S => (match evE sg cf ρ e S with
    | .ok v S1 => .nx (setE ρ i v) S1
    | .exc (.exn d x) S1 => (match undX sg.eb d c with
      | some true => .nx ((setE (setE ρ n (.exn d x)) j (.exn d x)).set n none) S1
      | some false => .ex (.exn d x) ρ S1
      | none => .bad)
    | _ => .bad)
noncomputable def evSs : List IS → Env → Store → Out
  | [], ρ, S => .nx ρ S
  | s :: r, ρ, S => (evS s ρ S).then fun ρ' S' => evSs r ρ' S'
end
end
/-- a def: its parameters (how many), its names (how many), its body -/
structure Fn where
  np : Nat
  nl : Nat
  body : List IS
abbrev Tab := String → Option Fn
noncomputable def callF (sg : Sig) (Φ : Tab) : Nat → String → List Val → Store → Res Val
  | 0, _, _, _ => .bad
  | d + 1, f, args, S => match Φ f with
    | none => .bad
    | some fn => if args.length = fn.np then (match evSs sg (callF sg Φ d) fn.body (args.map some ++ List.replicate (fn.nl - fn.np) none) S with
      | .nx _ S' => .ok .non S'
      | .rt v S' => .ok v S'
      | .ex x _ S' => .exc x S'
      | _ => .bad) else .bad
end Pi

end
section
set_option linter.all false
set_option maxRecDepth 100000
/-! PiB: how the small language's values stand in the heap. -/
namespace Pi
open PySem PySem.Spec PyProof.Rows L2

/-- P: what no one else may change; R: what is shared for good; μ: where the store's objects stand -/
structure Wd where
  P : Addr → Prop
  R : Addr → Prop
  μ : List Addr

/-- what is known of the exception classes: where each stands -/
structure XI where
  ce : String → Option Addr
  xf : String → Option String

/-- an exception object that nothing holds in flight -/
def exb (a C d : Addr) : HO := .ext fun h => ∃ (oe : Obj) (vs : Array Value), h.get? a = some oe ∧ Zc (.ref C) (some d) oe ∧ oe.data = .fields vs

def Lrd (H : Hp) (p : Addr → Prop) (a : Addr) (xs : List V) : Prop := p a ∧ H a = some (.lst xs)
theorem Lrd.sq {K : PySem.W.Frag} {H : Hp} {p : Addr → Prop} {a : Addr} {xs : List V} (h : Lrd H p a xs) : SqL K H a xs := .of h.2
section
variable (I : XI) (K : PySem.W.Frag) (H : Hp) (R : Addr → Prop) (μ : List Addr)
mutual
def RepV : Val → V → Prop
  | .non, v => v = .non
  | .bl b, v => v = .bl b
  | .int i, v => v = .int i
  | .str x, v => v = .str x ∧ x.length ≤ lim ∧ PyData.strOk x = true
  | .tup l, v => ∃ a xs, v = .ref a ∧ SqT K H a xs ∧ RepVs l xs
  | .lst l, v => ∃ a xs, v = .ref a ∧ Lrd H R a xs ∧ RepVs l xs
  | .loc n, v => ∃ a, v = .ref a ∧ μ[n]? = some a
  | .exn c x, v => ∃ a C d f y, v = .ref a ∧ I.ce c = some C ∧ I.xf c = some f ∧ R a ∧ R d ∧ H a = some (exb a C d) ∧ H d = some (.xd [((f : Str), y)]) ∧ RepV x y
  | .dct ks l, v => ∃ a hk, v = .ref a ∧ R a ∧ H a = some (.dK hk) ∧ hk.map (·.1) = ks.map Sum.inr ∧ RepVs l (hk.map (·.2))
def RepVs : List Val → List V → Prop
  | [], xs => xs = []
  | p :: ps, xs => ∃ v vs, xs = v :: vs ∧ RepV p v ∧ RepVs ps vs
end
end
section
variable {I : XI} {K : PySem.W.Frag} {H H' : Hp} {R R' : Addr → Prop} {μ μ' : List Addr}
/-- what was there stays: the shared, the tuples, the frozen -/
structure Kp (R : Addr → Prop) (H H' : Hp) : Prop where
  k : ∀ a o, R a → H a = some o → H' a = some o
  t : ∀ a xs, H a = some (.tup xs) → H' a = some (.tup xs)
  f : ∀ a o u, H a = some (.frz o u) → H' a = some (.frz o u)
theorem Kp.refl : Kp R H H := ⟨fun _ _ _ h => h, fun _ _ h => h, fun _ _ _ h => h⟩
theorem Kp.trans {H'' : Hp} (a : Kp R H H') (b : Kp R H' H'') : Kp R H H'' := ⟨fun x o r h => b.k x o r (a.k x o r h), fun x xs h => b.t x xs (a.t x xs h), fun x o u h => b.f x o u (a.f x o u h)⟩
theorem Kp.mono (a : Kp R H H') (s : ∀ x, R' x → R x) : Kp R' H H' := ⟨fun x o r h => a.k x o (s x r) h, a.t, a.f⟩
theorem Kp.new {p : Addr} {o : HO} (h : H p = none) : Kp R H (upd H p o) :=
  ⟨fun x u _ e => by rw [upd_ne (ne_of_none e h)]; exact e, fun x u e => by rw [upd_ne (ne_of_none e h)]; exact e, fun x u w e => by rw [upd_ne (ne_of_none e h)]; exact e⟩
/-- an object that isn't shared, no tuple, not frozen, is changed -/
theorem Kp.set {p : Addr} {o : HO} {xs : List V} (h : H p = some (.lst xs)) (n : ¬ R p) : Kp R H (upd H p o) :=
  ⟨fun x u r e => by rw [upd_ne (a := p) (b := x) (by intro z; subst z; exact n r)]; exact e, fun x u e => by rw [upd_ne (ne_of e h (by intro z; cases z))]; exact e, fun x u w e => by rw [upd_ne (ne_of e h (by intro z; cases z))]; exact e⟩
theorem Kp.sqT {a : Addr} {xs : List V} (k : Kp R H H') (h : SqT K H a xs) : SqT K H' a xs := by
  rcases h with (h | ⟨o, h⟩) | h
  · exact .inl (.inl (k.t _ _ h))
  · exact .inl (.inr ⟨o, k.f _ _ _ h⟩)
  · exact .inr h
theorem Kp.lrd {a : Addr} {xs : List V} (k : Kp R H H') (h : Lrd H R a xs) : Lrd H' R a xs := by
  exact ⟨h.1, k.k _ _ h.1 h.2⟩
theorem Lrd.mono {p q : Addr → Prop} {a : Addr} {xs : List V} (s : ∀ x, p x → q x) (h : Lrd H p a xs) : Lrd H q a xs := ⟨s _ h.1, h.2⟩
mutual
theorem RepV.mono (k : Kp R H H') (s : ∀ x, R x → R' x) (m : ∀ (n : Nat) (a : Addr), μ[n]? = some a → μ'[n]? = some a) : ∀ (p : Val) (v : V), RepV I K H R μ p v → RepV I K H' R' μ' p v
  | .non, _, h => h
  | .bl _, _, h => h
  | .int _, _, h => h
  | .str _, _, h => h
  | .tup l, _, h => by
    obtain ⟨a, xs, e, h1, h2⟩ := h
    exact ⟨a, xs, e, k.sqT h1, RepVs.mono k s m l xs h2⟩
  | .lst l, _, h => by
    obtain ⟨a, xs, e, h1, h2⟩ := h
    exact ⟨a, xs, e, (k.lrd h1).mono s, RepVs.mono k s m l xs h2⟩
  | .loc n, _, h => by
    obtain ⟨a, e, h1⟩ := h
    exact ⟨a, e, m n a h1⟩
  | .exn c x, _, h => by
    obtain ⟨a, C, d, f, y, e, h1, h2, h3, h4, h5, h6, h7⟩ := h
    exact ⟨a, C, d, f, y, e, h1, h2, s _ h3, s _ h4, k.k _ _ h3 h5, k.k _ _ h4 h6, RepV.mono k s m x y h7⟩
  | .dct ks l, _, h => by
    obtain ⟨a, hk, e, h1, h2, h3, h4⟩ := h
    exact ⟨a, hk, e, s _ h1, k.k _ _ h1 h2, h3, RepVs.mono k s m l _ h4⟩
theorem RepVs.mono (k : Kp R H H') (s : ∀ x, R x → R' x) (m : ∀ (n : Nat) (a : Addr), μ[n]? = some a → μ'[n]? = some a) : ∀ (ps : List Val) (vs : List V), RepVs I K H R μ ps vs → RepVs I K H' R' μ' ps vs
  | [], _, h => h
  | p :: ps, _, h => by
    obtain ⟨v, vs, e, h1, h2⟩ := h
    exact ⟨v, vs, e, RepV.mono k s m p v h1, RepVs.mono k s m ps vs h2⟩
end
theorem RepVs.length : ∀ {ps : List Val} {vs : List V}, RepVs I K H R μ ps vs → ps.length = vs.length
  | [], _, h => by
    have e : _ = ([] : List V) := h
    rw [e] <;> rfl
  | p :: ps, _, h => by
    obtain ⟨v, vs, e, h1, h2⟩ := h
    rw [e, List.length_cons, List.length_cons, RepVs.length h2]
theorem RepVs.get : ∀ {ps : List Val} {vs : List V} {i : Nat} {p : Val}, RepVs I K H R μ ps vs → ps[i]? = some p → ∃ v, vs[i]? = some v ∧ RepV I K H R μ p v
  | [], _, _, _, _, e => by simp at e
  | q :: ps, _, i, p, h, e => by
    obtain ⟨v, vs, ev, h1, h2⟩ := h
    subst ev
    cases i with
    | zero =>
      have e' : q = p := by simpa using e
      subst e'
      exact ⟨v, rfl, h1⟩
    | succ i =>
      obtain ⟨w, hw, r⟩ := RepVs.get (i := i) (p := p) h2 (by simpa using e)
      exact ⟨w, by simpa using hw, r⟩
theorem RepVs.append : ∀ {ps qs : List Val} {vs ws : List V}, RepVs I K H R μ ps vs → RepVs I K H R μ qs ws → RepVs I K H R μ (ps ++ qs) (vs ++ ws)
  | [], _, _, _, h, h' => by
    have e : _ = ([] : List V) := h
    rw [e]
    exact h'
  | p :: ps, qs, _, ws, h, h' => by
    obtain ⟨v, vs, e, h1, h2⟩ := h
    subst e
    exact ⟨v, vs ++ ws, rfl, h1, RepVs.append h2 h'⟩
theorem RepVs.take : ∀ {ps : List Val} {vs : List V} (n : Nat), RepVs I K H R μ ps vs → RepVs I K H R μ (ps.take n) (vs.take n)
  | [], _, n, h => by
    have e : _ = ([] : List V) := h
    rw [e, List.take_nil, List.take_nil]
    rfl
  | p :: ps, _, 0, h => rfl
  | p :: ps, _, n + 1, h => by
    obtain ⟨v, vs, e, h1, h2⟩ := h
    subst e
    exact ⟨v, vs.take n, rfl, h1, RepVs.take n h2⟩
theorem RepVs.drop : ∀ {ps : List Val} {vs : List V} (n : Nat), RepVs I K H R μ ps vs → RepVs I K H R μ (ps.drop n) (vs.drop n)
  | [], _, n, h => by
    have e : _ = ([] : List V) := h
    rw [e, List.drop_nil, List.drop_nil]
    rfl
  | p :: ps, _, 0, h => h
  | p :: ps, _, n + 1, h => by
    obtain ⟨v, vs, e, h1, h2⟩ := h
    subst e
    exact RepVs.drop n h2
theorem RepVs.set {q : Val} {w : V} (r : RepV I K H R μ q w) : ∀ {ps : List Val} {vs : List V} (n : Nat), RepVs I K H R μ ps vs → RepVs I K H R μ (ps.set n q) (vs.set n w)
  | [], _, n, h => by
    have e : _ = ([] : List V) := h
    rw [e]
    rfl
  | p :: ps, _, 0, h => by
    obtain ⟨v, vs, e, h1, h2⟩ := h
    subst e
    exact ⟨w, vs, rfl, r, h2⟩
  | p :: ps, _, n + 1, h => by
    obtain ⟨v, vs, e, h1, h2⟩ := h
    subst e
    exact ⟨v, vs.set n w, rfl, h1, RepVs.set r n h2⟩
end

/-- a later world -/
structure Wd.le (W W' : Wd) : Prop where
  p : ∀ a, W.P a → W'.P a
  r : ∀ a, W.R a → W'.R a
  n : ∀ a, W'.R a → W.P a → W.R a
  m : ∀ (n : Nat) (a : Addr), W.μ[n]? = some a → W'.μ[n]? = some a
theorem Wd.le.refl {W : Wd} : W.le W := ⟨fun _ h => h, fun _ h => h, fun _ h _ => h, fun _ _ h => h⟩
theorem Wd.le.trans {A B C : Wd} (x : A.le B) (y : B.le C) : A.le C := ⟨fun a h => y.p a (x.p a h), fun a h => y.r a (x.r a h), fun a h h' => x.n a (y.n a h (x.p a h')) h', fun n a h => y.m n a (x.m n a h)⟩
structure WOk (W : Wd) (H : Hp) : Prop where
  rp : ∀ a, W.R a → W.P a
  d : ∀ a, W.P a → ∃ o, H a = some o
  nd : W.μ.Nodup
  mp : ∀ a ∈ W.μ, ¬ W.P a ∧ ∃ o, H a = some o
section
variable (I : XI) (K : PySem.W.Frag) (W : Wd) (H : Hp)
abbrev Rp (p : Val) (v : V) : Prop := RepV I K H W.R W.μ p v
abbrev Rps (p : List Val) (v : List V) : Prop := RepVs I K H W.R W.μ p v
def ObRep : Ob → Addr → Prop
  | .lst l, a => ∃ xs, H a = some (.lst xs) ∧ Rps I K W H l xs
  | .ro l, a => ∃ xs, SqL K H a xs ∧ Rps I K W H l xs
  | .ins _ _, _ => False
structure StRep (S : Store) : Prop where
  len : S.length = W.μ.length
  ob : ∀ (n : Nat) (o : Ob), S[n]? = some o → ∃ a, W.μ[n]? = some a ∧ ObRep I K W H o a
/-- a list that is one's own -/
def Own (l : List Val) (a : Addr) : Prop := W.P a ∧ ¬ W.R a ∧ ∃ xs, H a = some (.lst xs) ∧ Rps I K W H l xs
/-- borrowed; fresh since the world W0 -/
def KB (p : Val) (v : V) : Prop := match p with
  | .lst l => ∃ a xs, v = .ref a ∧ Lrd H W.P a xs ∧ Rps I K W H l xs
  | p => Rp I K W H p v
def KF (W0 : Wd) (p : Val) (v : V) : Prop := match p with
  | .lst l => ∃ a, v = .ref a ∧ Own I K W H l a ∧ ¬ W0.P a
  | p => Rp I K W H p v
structure EnvRep (O : List Nat) (ρ : Env) (σ : L2.St) : Prop where
  len : ρ.length = σ.length
  sh : ∀ (i : Nat) (p : Val), ρ[i]? = some (some p) → i ∉ O → ∃ v, σ[i]? = some (some v) ∧ Rp I K W H p v
  ow : ∀ (i : Nat) (p : Val), ρ[i]? = some (some p) → i ∈ O → ∃ l a, p = .lst l ∧ σ[i]? = some (some (V.ref a)) ∧ Own I K W H l a
  ap : ∀ (i j : Nat) (a : Addr), i ∈ O → j ∈ O → σ[i]? = some (some (V.ref a)) → σ[j]? = some (some (V.ref a)) → (∃ p, ρ[i]? = some (some p)) → (∃ p, ρ[j]? = some (some p)) → i = j
structure Sr (O : List Nat) (ρ : Env) (σ : L2.St) (S : Store) : Prop where
  w : WOk W H
  s : StRep I K W H S
  e : EnvRep I K W H O ρ σ
end
section
variable {I : XI} {K : PySem.W.Frag} {W W' W0 : Wd} {H H' : Hp} {O : List Nat} {ρ : Env} {σ : L2.St} {S S' : Store}
theorem Rp.up {p : Val} {v : V} (l : W.le W') (k : Kp W.P H H') (w : WOk W H) (h : Rp I K W H p v) : Rp I K W' H' p v := RepV.mono (k.mono w.rp) l.r l.m p v h
theorem Rps.up {p : List Val} {v : List V} (l : W.le W') (k : Kp W.P H H') (w : WOk W H) (h : Rps I K W H p v) : Rps I K W' H' p v := RepVs.mono (k.mono w.rp) l.r l.m p v h
theorem Own.up {l : List Val} {a : Addr} (le : W.le W') (k : Kp W.P H H') (w : WOk W H) (h : Own I K W H l a) : Own I K W' H' l a := by
  obtain ⟨h1, h2, xs, h3, h4⟩ := h
  exact ⟨le.p _ h1, fun z => h2 (le.n _ z h1), xs, k.k _ _ h1 h3, h4.up le k w⟩
theorem KB.up {p : Val} {v : V} (l : W.le W') (k : Kp W.P H H') (w : WOk W H) (h : KB I K W H p v) : KB I K W' H' p v := by
  cases p with
  | lst ls =>
    obtain ⟨a, xs, e, h1, h2⟩ := h
    exact ⟨a, xs, e, (k.lrd h1).mono l.p, h2.up l k w⟩
  | _ => exact Rp.up l k w h
theorem KF.kb {p : Val} {v : V} (h : KF I K W H W0 p v) : KB I K W H p v := by
  cases p with
  | lst ls =>
    obtain ⟨a, e, ⟨h1, _, xs, h3, h4⟩, _⟩ := h
    exact ⟨a, xs, e, ⟨h1, h3⟩, h4⟩
  | _ => exact h
theorem Rp.kb {p : Val} {v : V} (w : WOk W H) (h : Rp I K W H p v) : KB I K W H p v := by
  cases p with
  | lst ls =>
    obtain ⟨a, xs, e, h1, h2⟩ := h
    exact ⟨a, xs, e, h1.mono w.rp, h2⟩
  | _ => exact h
theorem EnvRep.up (le : W.le W') (k : Kp W.P H H') (w : WOk W H) (h : EnvRep I K W H O ρ σ) : EnvRep I K W' H' O ρ σ :=
  ⟨h.len, fun i p e n => by
    obtain ⟨v, h1, h2⟩ := h.sh i p e n
    exact ⟨v, h1, h2.up le k w⟩, fun i p e n => by
    obtain ⟨l, a, h1, h2, h3⟩ := h.ow i p e n
    exact ⟨l, a, h1, h2, h3.up le k w⟩, h.ap⟩
theorem Sr.up (le : W.le W') (k : Kp W.P H H') (w' : WOk W' H') (s' : StRep I K W' H' S') (h : Sr I K W H O ρ σ S) : Sr I K W' H' O ρ σ S' := ⟨w', s', h.e.up le k h.w⟩
theorem StRep.up (le : W.le W') (k : Kp W.P H H') (w : WOk W H) (m : W'.μ = W.μ) (kb : ∀ a ∈ W.μ, H' a = H a) (h : StRep I K W H S) : StRep I K W' H' S :=
  ⟨by rw [m]; exact h.len, fun n o e => by
    obtain ⟨a, h1, h2⟩ := h.ob n o e
    refine ⟨a, by rw [m]; exact h1, ?_⟩
    cases o with
    | lst l =>
      obtain ⟨xs, h3, h4⟩ := h2
      exact ⟨xs, by rw [kb a (List.mem_of_getElem? h1)]; exact h3, h4.up le k w⟩
    | ro l =>
      obtain ⟨xs, h3, h4⟩ := h2
      refine ⟨xs, ?_, h4.up le k w⟩
      have e := kb a (List.mem_of_getElem? h1)
      rcases h3 with (h3 | ⟨o, h3⟩) | h3
      · exact .inl (.inl (e.trans h3))
      · exact .inl (.inr ⟨o, e.trans h3⟩)
      · exact .inr h3
    | ins c fs => exact h2.elim⟩
/-- a new object is protected -/
def Wd.add (W : Wd) (a : Addr) : Wd := { W with P := fun b => b = a ∨ W.P b }
/-- .. and shared -/
def Wd.shr (W : Wd) (a : Addr) : Wd := { W with R := fun b => b = a ∨ W.R b }
theorem le_add {a : Addr} : W.le (W.add a) := ⟨fun _ h => .inr h, fun _ h => h, fun _ h _ => h, fun _ _ h => h⟩
theorem wok_new {p : Addr} {o : HO} (hp : H p = none) (w : WOk W H) : WOk W (upd H p o) :=
  ⟨w.rp, fun a h => by
    obtain ⟨u, e⟩ := w.d a h
    exact ⟨u, by rw [upd_ne (ne_of_none e hp)]; exact e⟩, w.nd, fun a h => by
    obtain ⟨n, u, e⟩ := w.mp a h
    exact ⟨n, u, by rw [upd_ne (ne_of_none e hp)]; exact e⟩⟩
theorem wok_add {p : Addr} {o : HO} (hp : H p = none) (w : WOk W H) : WOk (W.add p) (upd H p o) :=
  ⟨fun a h => .inr (w.rp a h), fun a h => by
    rcases h with h | h
    · subst h
      exact ⟨o, upd_same⟩
    · obtain ⟨u, e⟩ := w.d a h
      exact ⟨u, by rw [upd_ne (ne_of_none e hp)]; exact e⟩, w.nd, fun a h => by
    obtain ⟨n, u, e⟩ := w.mp a h
    refine ⟨fun z => ?_, u, by rw [upd_ne (ne_of_none e hp)]; exact e⟩
    rcases z with z | z
    · subst z
      rw [hp] at e
      cases e
    · exact n z⟩
theorem st_new {p : Addr} {o : HO} (hp : H p = none) (w : WOk W H) (h : StRep I K W H S) : StRep I K W (upd H p o) S :=
  h.up .refl (Kp.new hp) w rfl fun a ha => by
    obtain ⟨_, u, e⟩ := w.mp a ha
    exact upd_ne (ne_of_none e hp)
theorem st_add {p : Addr} {o : HO} (hp : H p = none) (w : WOk W H) (h : StRep I K W H S) : StRep I K (W.add p) (upd H p o) S :=
  h.up le_add (Kp.new hp) w rfl fun a ha => by
    obtain ⟨_, u, e⟩ := w.mp a ha
    exact upd_ne (ne_of_none e hp)
/-- what's fresh may be shared -/
theorem KF.share {p : Val} {v : V} (le : W0.le W) (w : WOk W H) (s : StRep I K W H S) (h : KF I K W H W0 p v) :
    ∃ W', W0.le W' ∧ W.μ = W'.μ ∧ (∀ a, W.P a ↔ W'.P a) ∧ WOk W' H ∧ StRep I K W' H S ∧ Rp I K W' H p v := by
  cases p with
  | lst ls =>
    obtain ⟨a, e, ⟨h1, h2, xs, h3, h4⟩, h5⟩ := h
    have l2 : ∀ x, W.R x → (W.shr a).R x := fun _ z => .inr z
    refine ⟨W.shr a, ⟨le.p, fun b z => .inr (le.r b z), fun b z q => ?_, le.m⟩, rfl, fun _ => Iff.rfl, ⟨fun b z => ?_, w.d, w.nd, w.mp⟩, ⟨s.len, fun n o z => ?_⟩, ?_⟩
    · rcases z with z | z
      · subst z
        exact absurd q h5
      · exact le.n b z q
    · rcases z with z | z
      · subst z
        exact h1
      · exact w.rp b z
    · obtain ⟨b, q1, q2⟩ := s.ob n o z
      refine ⟨b, q1, ?_⟩
      cases o with
      | lst l =>
        obtain ⟨ys, q3, q4⟩ := q2
        exact ⟨ys, q3, RepVs.mono .refl l2 (fun _ _ z => z) _ _ q4⟩
      | ro l =>
        obtain ⟨ys, q3, q4⟩ := q2
        exact ⟨ys, q3, RepVs.mono .refl l2 (fun _ _ z => z) _ _ q4⟩
      | ins c fs => exact q2.elim
    · exact ⟨a, xs, e, ⟨.inl rfl, h3⟩, RepVs.mono .refl l2 (fun _ _ z => z) _ _ h4⟩
  | _ => exact ⟨W, le, rfl, fun _ => Iff.rfl, w, s, h⟩
end
end Pi

end
section
set_option linter.all false
set_option maxRecDepth 100000
/-! PiC: operations by values. -/
namespace Pi
open PySem PySem.Spec PyProof.Rows L2

/-- what is wanted of a value that has come -/
def Done (I : XI) (K : PySem.W.Frag) (W : Wd) (H : Hp) (S : Store) (z : Val) (Q : VK) : Prop :=
  ∀ W' H' x, W.le W' → Kp W.P H H' → WOk W' H' → StRep I K W' H' S → KF I K W' H' W z x → Q x H'
section
variable {I : XI} {K : PySem.W.Frag} {W : Wd} {H : Hp} {S : Store} {Q : VK}
theorem _root_.Pi.WOk.no {p : Addr} (w : WOk W H) (hp : H p = none) : ¬ W.P p := fun z => by
  obtain ⟨_, e⟩ := w.d p z
  rw [hp] at e
  cases e
theorem Done.imm {z : Val} {x : V} (d : Done I K W H S z Q) (w : WOk W H) (s : StRep I K W H S) (h : KF I K W H W z x) : Q x H := d W H x .refl .refl w s h
theorem Done.newL {l : List Val} {xs : List V} (d : Done I K W H S (.lst l) Q) (w : WOk W H) (s : StRep I K W H S) (h : Rps I K W H l xs) (p : Addr) (hp : H p = none) : Q (.ref p) (upd H p (.lst xs)) :=
  d (W.add p) _ _ le_add (Kp.new hp) (wok_add hp w) (st_add hp w s) ⟨p, rfl, ⟨.inl rfl, (fun z => w.no hp (w.rp p z)), xs, upd_same, h.up le_add (Kp.new hp) w⟩, w.no hp⟩
theorem Done.newT {l : List Val} {xs : List V} (d : Done I K W H S (.tup l) Q) (w : WOk W H) (s : StRep I K W H S) (h : Rps I K W H l xs) (p : Addr) (hp : H p = none) : Q (.ref p) (upd H p (.tup xs)) :=
  d W _ _ .refl (Kp.new hp) (wok_new hp w) (st_new hp w s) ⟨p, xs, rfl, .of upd_same, h.up .refl (Kp.new hp) w⟩
theorem KB.of_not {p : Val} {v : V} (h : KB I K W H p v) (n : ∀ l, p ≠ .lst l) : Rp I K W H p v := by
  cases p with
  | lst l => exact absurd rfl (n l)
  | _ => exact h
/-- an operation of two values -/
def R2Ok (I : XI) (K : PySem.W.Frag) (r : R2) (f : Val → Val → Option Val) : Prop :=
  ∀ (W : Wd) (H : Hp) (S : Store) (x y z : Val) (xv yv : V) (Q : VK), WOk W H → StRep I K W H S → KB I K W H x xv → KB I K W H y yv → f x y = some z → Done I K W H S z Q → r xv yv H Q

theorem str_len_app (a b : Str) : (a ++ b).length = a.length + b.length := by
  show (a.cps ++ b.cps).size = _
  rw [Array.size_append]
  rfl
theorem strOk_app {a b : Str} (h : PyData.strOk a = true) (h' : PyData.strOk b = true) : PyData.strOk (a ++ b) = true := by
  show (a.cps ++ b.cps).all _ = true
  rw [Array.all_append]
  exact Bool.and_eq_true_iff.mpr ⟨h, h'⟩
theorem sizeLine_lim : sizeLine = lim := by rw [sizeLine_eq]
/-- + -/
def rAddA (K : PySem.W.Frag) : R2 := fun x y H Q => (rI0 fun i j => .int (i + j)) x y H Q ∨ (∃ i j, x = .str i ∧ y = .str j ∧ i.length + j.length ≤ sizeLine ∧ Q (.str (i ++ j)) H) ∨ rCat x y H Q ∨ rCatA K x y H Q
theorem op_addA {X : Cx} : OpR X (binaryOp .Add) (rAddA X.K) := op_add.or (op_add_str.or (op_cat.or op_catA))
/-- a truth among numbers -/
def rBI (f : Int → Int → Int) : R2 := fun x y H Q => (∃ a b, x = .bl a ∧ y = .int b ∧ Q (.int (f (if a then 1 else 0) b)) H) ∨ ∃ a b, x = .int a ∧ y = .bl b ∧ Q (.int (f a (if b then 1 else 0))) H
theorem op_addBI {X : Cx} : OpR X (binaryOp .Add) (rBI fun i j => i + j) := by
  intro pins s σ H x y v u Q I rx ry h
  rcases h with ⟨a, b, rfl, rfl, q⟩ | ⟨a, b, rfl, rfl, q⟩
  · obtain ⟨t, rfl⟩ := ry
    cases rx
    exact PySem.IntBool.add_bool_int ⟨.int _, H, I.tok _, ⟨_, rfl⟩, q⟩
  · obtain ⟨t, rfl⟩ := rx
    cases ry
    exact PySem.add_int_bool ⟨.int _, H, I.tok _, ⟨_, rfl⟩, q⟩
theorem op_subBI {X : Cx} : OpR X (binaryOp .Sub) (rBI fun i j => i - j) := by
  intro pins s σ H x y v u Q I rx ry h
  rcases h with ⟨a, b, rfl, rfl, q⟩ | ⟨a, b, rfl, rfl, q⟩
  · obtain ⟨t, rfl⟩ := ry
    cases rx
    exact PySem.IntBool.sub_bool_int ⟨.int _, H, I.tok _, ⟨_, rfl⟩, q⟩
  · obtain ⟨t, rfl⟩ := rx
    cases ry
    exact PySem.IntBool.sub_int_bool ⟨.int _, H, I.tok _, ⟨_, rfl⟩, q⟩
def rAddB (K : PySem.W.Frag) : R2 := fun x y H Q => (rBI fun i j => i + j) x y H Q ∨ rAddA K x y H Q
theorem op_addB {X : Cx} : OpR X (binaryOp .Add) (rAddB X.K) := op_addBI.or op_addA
def rSubB : R2 := fun x y H Q => (rBI fun i j => i - j) x y H Q ∨ (rI0 fun i j => .int (i - j)) x y H Q
theorem op_subB {X : Cx} : OpR X (binaryOp .Sub) rSubB := op_subBI.or op_sub
theorem Rps.nil_iff {ps : List Val} {vs : List V} (r : Rps I K W H ps vs) : ps = [] ↔ vs = [] := by
  have e := RepVs.length r
  constructor
  · intro h
    rw [h] at e
    exact List.eq_nil_of_length_eq_zero e.symm
  · intro h
    rw [h] at e
    exact List.eq_nil_of_length_eq_zero e
theorem ok_add : R2Ok I K (rAddB K) (binV .add) := by
  intro W H S x y z xv yv Q w s hx hy hf d
  cases x <;> cases y <;> try (cases hf; done)
  · case bl.int a b =>
    cases hx
    cases hy
    cases hf
    exact .inl (.inl ⟨a, b, rfl, rfl, d.imm w s rfl⟩)
  · case int.bl a b =>
    cases hx
    cases hy
    cases hf
    exact .inl (.inr ⟨a, b, rfl, rfl, d.imm w s rfl⟩)
  · case int.int i j =>
    cases hx
    cases hy
    cases hf
    exact .inr (.inl ⟨i, j, rfl, rfl, d.imm w s rfl⟩)
  · case str.str a b =>
    obtain ⟨rfl, _, o1⟩ := hx
    obtain ⟨rfl, _, o2⟩ := hy
    have hf' : (if a.length + b.length ≤ lim then some (Val.str (a ++ b)) else none) = some z := hf
    by_cases h : a.length + b.length ≤ lim
    · rw [if_pos h] at hf'
      cases hf'
      exact .inr (.inr (.inl ⟨a, b, rfl, rfl, by rw [sizeLine_lim]; exact h, d.imm w s ⟨rfl, by rw [str_len_app]; exact h, strOk_app o1 o2⟩⟩))
    · rw [if_neg h] at hf'
      cases hf'
  · case tup.tup a b =>
    have hf' : (if a.length + b.length ≤ lim then some (Val.tup (a ++ b)) else none) = some z := hf
    by_cases h : a.length + b.length ≤ lim
    · rw [if_pos h] at hf'
      cases hf'
      obtain ⟨p, xs, rfl, h1, h2⟩ := hx
      obtain ⟨q, ys, rfl, h3, h4⟩ := hy
      have l1 := RepVs.length h2
      have l2 := RepVs.length h4
      refine .inr (.inr (.inr (.inr ⟨p, q, xs, ys, rfl, rfl, h1, h3, by rw [sizeLine_lim]; omega, fun e => ?_, fun _ e => ?_, fun _ _ pn hp => d.newT w s (RepVs.append h2 h4) pn hp⟩)))
      · have ea : a = [] := (Rps.nil_iff h2).mpr e
        subst ea
        exact d.imm w s ⟨q, ys, rfl, h3, h4⟩
      · have eb : b = [] := (Rps.nil_iff h4).mpr e
        subst eb
        rw [List.append_nil] at d
        exact d.imm w s ⟨p, xs, rfl, h1, h2⟩
    · rw [if_neg h] at hf'
      cases hf'
  · case lst.lst a b =>
    have hf' : (if a.length + b.length ≤ lim then some (Val.lst (a ++ b)) else none) = some z := hf
    by_cases h : a.length + b.length ≤ lim
    · rw [if_pos h] at hf'
      cases hf'
      obtain ⟨p, xs, rfl, h1, h2⟩ := hx
      obtain ⟨q, ys, rfl, h3, h4⟩ := hy
      have l1 := RepVs.length h2
      have l2 := RepVs.length h4
      exact .inr (.inr (.inr (.inl ⟨p, q, xs, ys, rfl, rfl, h1.2, h3.2, by rw [sizeLine_lim]; omega, fun pn hp => d.newL w s (RepVs.append h2 h4) pn hp⟩)))
    · rw [if_neg h] at hf'
      cases hf'
theorem ok_sub : R2Ok I K rSubB (binV .sub) := by
  intro W H S x y z xv yv Q w s hx hy hf d
  cases x <;> cases y <;> try (cases hf; done)
  · case bl.int a b =>
    cases hx
    cases hy
    cases hf
    exact .inl (.inl ⟨a, b, rfl, rfl, d.imm w s rfl⟩)
  · case int.bl a b =>
    cases hx
    cases hy
    cases hf
    exact .inl (.inr ⟨a, b, rfl, rfl, d.imm w s rfl⟩)
  · case int.int i j =>
    cases hx
    cases hy
    cases hf
    exact .inr ⟨_, _, rfl, rfl, d.imm w s rfl⟩
/-- * -/
def CMulA (i j : Int) : Prop := fitMul i j = true
theorem CMulA.ok {i j : Int} (h : CMulA i j) : IntMulOk i j := by
  have b : ∀ x : Int, Builtin.Int.intBits x ≤ x.natAbs.log2 + 1 := fun x => by
    unfold Builtin.Int.intBits
    split <;> omega
  unfold CMulA fitMul at h
  simp only [Bool.or_eq_true, decide_eq_true_eq] at h
  rcases h with (h | h) | h
  · exact .of_left (intBits_le_64 (by omega) (by omega))
  · exact .of_right (intBits_le_64 (by omega) (by omega))
  · have h1 := b i
    have h2 := b j
    have e : bitsLine = 134217728 := by decide
    unfold IntMulOk Builtin.Int.intTooBig
    intro z
    rw [Bool.and_eq_true] at z
    have z3 := of_decide_eq_true z.2
    rw [e] at z3
    omega
theorem op_mulA {X : Cx} : OpR X (binaryOp .Mult) (rI CMulA fun i j => .int (i * j)) := opI fun _ _ _ _ _ _ _ hc q => mul_int q hc.ok
def rMulA (K : PySem.W.Frag) : R2 := fun x y H Q => (rI CMulA fun i j => .int (i * j)) x y H Q ∨ rRep x y H Q ∨ rRepT K x y H Q
theorem op_mulAA {X : Cx} : OpR X (binaryOp .Mult) (rMulA X.K) := op_mulA.or (op_rep.or op_repT)
theorem Rps.flat {l : List Val} {xs : List V} (h : Rps I K W H l xs) : ∀ n, Rps I K W H (List.replicate n l).flatten (List.replicate n xs).flatten
  | 0 => rfl
  | n + 1 => by
    rw [List.replicate_succ, List.replicate_succ, List.flatten_cons, List.flatten_cons]
    exact RepVs.append h (Rps.flat h n)
theorem ok_mul : R2Ok I K (rMulA K) (binV .mul) := by
  intro W H S x y z xv yv Q w s hx hy hf d
  cases x <;> cases y <;> try (cases hf; done)
  · case int.int i j =>
    cases hx
    cases hy
    have hf' : (if fitMul i j then some (Val.int (i * j)) else none) = some z := hf
    by_cases h : fitMul i j = true
    · rw [if_pos h] at hf'
      cases hf'
      exact .inl ⟨i, j, rfl, rfl, h, d.imm w s rfl⟩
    · rw [if_neg h] at hf'
      cases hf'
  · case tup.int a b =>
    cases hy
    have hf' : (if 2 ≤ b ∧ b ≤ 1000 ∧ a.length ≤ 1000 ∧ 0 < a.length then some (Val.tup (List.replicate b.toNat a).flatten) else none) = some z := hf
    by_cases h : 2 ≤ b ∧ b ≤ 1000 ∧ a.length ≤ 1000 ∧ 0 < a.length
    · rw [if_pos h] at hf'
      cases hf'
      obtain ⟨p, xs, rfl, h1, h2⟩ := hx
      have l1 := RepVs.length h2
      refine .inr (.inr ⟨p, b, xs, rfl, rfl, h1, fun e => ?_, h.1, h.2.1, by omega, fun pn hp => d.newT w s (Rps.flat h2 _) pn hp⟩)
      have l1 : a.length = 0 := by rw [l1, e]; rfl
      have := h.2.2.2
      omega
    · rw [if_neg h] at hf'
      cases hf'
  · case lst.int a b =>
    cases hy
    have hf' : (if -(2 ^ 63) ≤ b ∧ b < 2 ^ 63 ∧ a.length * b.toNat ≤ lim then some (Val.lst (List.replicate b.toNat a).flatten) else none) = some z := hf
    by_cases h : -(2 ^ 63) ≤ b ∧ b < 2 ^ 63 ∧ a.length * b.toNat ≤ lim
    · rw [if_pos h] at hf'
      cases hf'
      obtain ⟨p, xs, rfl, h1, h2⟩ := hx
      have l1 := RepVs.length h2
      exact .inr (.inl ⟨p, b, xs, rfl, rfl, h1.2, h.1, h.2.1, by rw [sizeLine_lim, ← l1]; exact h.2.2, fun pn hp => d.newL w s (Rps.flat h2 _) pn hp⟩)
    · rw [if_neg h] at hf'
      cases hf'
def CDivA (_ j : Int) : Prop := j ≠ 0 ∧ j.natAbs.log2 < 9000
theorem op_fdivA {X : Cx} : OpR X (binaryOp .FloorDiv) (rI CDivA fun i j => .int (i.fdiv j)) := opI fun _ _ _ _ _ _ _ hc q => floordiv_int hc.1 q (.inl (PyProof.noPylong_of_log2 hc.2))
theorem ok_fdiv : R2Ok I K (rI CDivA fun i j => .int (i.fdiv j)) (binV .fdiv) := by
  intro W H S x y z xv yv Q w s hx hy hf d
  cases x <;> cases y <;> try (cases hf; done)
  rename_i a b
  cases hx
  cases hy
  have hf' : (if b = 0 ∨ 9000 ≤ b.natAbs.log2 then none else some (Val.int (a.fdiv b))) = some z := hf
  by_cases h : b = 0 ∨ 9000 ≤ b.natAbs.log2
  · rw [if_pos h] at hf'
    cases hf'
  · rw [if_neg h] at hf'
    cases hf'
    exact ⟨a, b, rfl, rfl, ⟨fun e => h (.inl e), by omega⟩, d.imm w s rfl⟩
theorem ok_mod : R2Ok I K (rI (fun _ j => j ≠ 0) fun i j => .int (i.fmod j)) (binV .mod) := by
  intro W H S x y z xv yv Q w s hx hy hf d
  cases x <;> cases y <;> try (cases hf; done)
  rename_i a b
  cases hx
  cases hy
  have hf' : (if b = 0 then none else some (Val.int (a.fmod b))) = some z := hf
  by_cases h : b = 0
  · rw [if_pos h] at hf'
    cases hf'
  · rw [if_neg h] at hf'
    cases hf'
    exact ⟨a, b, rfl, rfl, h, d.imm w s rfl⟩
theorem ok_pow : R2Ok I K (rI CPow fun i j => .int (i ^ j.toNat)) (binV .pow) := by
  intro W H S x y z xv yv Q w s hx hy hf d
  cases x <;> cases y <;> try (cases hf; done)
  rename_i a b
  cases hx
  cases hy
  have hf' : (if 0 ≤ b ∧ b ≤ 1000000 ∧ a.natAbs < 2 ^ 64 then some (Val.int (a ^ b.toNat)) else none) = some z := hf
  by_cases h : 0 ≤ b ∧ b ≤ 1000000 ∧ a.natAbs < 2 ^ 64
  · rw [if_pos h] at hf'
    cases hf'
    exact ⟨a, b, rfl, rfl, h, d.imm w s rfl⟩
  · rw [if_neg h] at hf'
    cases hf'
def bopO : Bop → Operator
  | .add => .Add | .sub => .Sub | .mul => .Mult | .fdiv => .FloorDiv | .mod => .Mod | .pow => .Pow
/-- every operation -/
theorem bop_ok (X : Cx) (o : Bop) : ∃ r, OpR X (binaryOp (bopO o)) r ∧ ∀ I, R2Ok I X.K r (binV o) := by
  cases o
  · exact ⟨_, op_addB, fun _ => ok_add⟩
  · exact ⟨_, op_subB, fun _ => ok_sub⟩
  · exact ⟨_, op_mulAA, fun _ => ok_mul⟩
  · exact ⟨_, op_fdivA, fun _ => ok_fdiv⟩
  · exact ⟨_, op_modN, fun _ => ok_mod⟩
  · exact ⟨_, op_pow, fun _ => ok_pow⟩

/-! ### comparisons -/
mutual
theorem dep_ok : ∀ (p : Val) (v : V) (n : Nat), depV p = some n → Rp I K W H p v → L2.Dp K H v (toD p) ∧ (toD p).canLay0 = true ∧ (toD p).depth ≤ n
  | .non, v, n, _, h => by
    cases h
    exact ⟨.non, rfl, Nat.zero_le _⟩
  | .bl b, v, n, _, h => by
    cases h
    exact ⟨.bl b, rfl, Nat.zero_le _⟩
  | .int i, v, n, _, h => by
    cases h
    exact ⟨.int i, rfl, Nat.zero_le _⟩
  | .str x, v, n, _, h => by
    obtain ⟨rfl, _, o⟩ := h
    exact ⟨.str x, o, Nat.zero_le _⟩
  | .tup l, v, n, e, h => by
    obtain ⟨a, xs, rfl, h1, h2⟩ := h
    have e' : (depVs l).map (· + 1) = some n := e
    cases q : depVs l with
    | none => rw [q] at e'; cases e'
    | some m =>
      rw [q] at e'
      cases e'
      obtain ⟨h3, h4, h5⟩ := deps_ok l xs m q h2
      exact ⟨.tup h1 h3, h4, Nat.succ_le_succ h5⟩
  | .lst l, v, n, e, h => by
    obtain ⟨a, xs, rfl, h1, h2⟩ := h
    have e' : (depVs l).map (· + 1) = some n := e
    cases q : depVs l with
    | none => rw [q] at e'; cases e'
    | some m =>
      rw [q] at e'
      cases e'
      obtain ⟨h3, h4, h5⟩ := deps_ok l xs m q h2
      exact ⟨.lst h1.sq h3, h4, Nat.succ_le_succ h5⟩
  | .loc _, v, n, e, h => by cases e
  | .exn _ _, v, n, e, h => by cases e
  | .dct _ _, v, n, e, h => by cases e
theorem deps_ok : ∀ (ps : List Val) (vs : List V) (n : Nat), depVs ps = some n → Rps I K W H ps vs → L2.DpAll K H vs (toDs ps) ∧ PyData.canLayAll0 (toDs ps) = true ∧ PyData.depthAll (toDs ps) ≤ n
  | [], vs, n, _, h => by
    have e : vs = [] := h
    subst e
    exact ⟨.nil, rfl, Nat.zero_le _⟩
  | p :: ps, vs, n, e, h => by
    obtain ⟨v, ws, rfl, h1, h2⟩ := h
    have e' : (match depV p, depVs ps with
      | some a, some b => some (max a b)
      | _, _ => none) = some n := e
    cases q : depV p with
    | none => rw [q] at e'; cases e'
    | some a =>
      cases q2 : depVs ps with
      | none => rw [q, q2] at e'; cases e'
      | some b =>
        rw [q, q2] at e'
        cases e'
        obtain ⟨a1, a2, a3⟩ := dep_ok p v a q h1
        obtain ⟨b1, b2, b3⟩ := deps_ok ps ws b q2 h2
        refine ⟨.cons a1 b1, ?_, ?_⟩
        · show ((toD p).canLay0 && PyData.canLayAll0 (toDs ps)) = true
          rw [a2, b2]
          rfl
        · show max (toD p).depth (PyData.depthAll (toDs ps)) ≤ max a b
          omega
end
mutual
theorem eqv_eq : ∀ (p q : Val), (depV p).isSome = true → (depV q).isSome = true → PyData.eqv (toD p) (toD q) = eqV p q
  | .tup l, .tup m, h1, h2 => by
    show PyData.eqvAll (toDs l) (toDs m) = eqVs l m
    refine eqvs_eq l m ?_ ?_
    · have h : ((depVs l).map (· + 1)).isSome = true := h1
      simpa using h
    · have h : ((depVs m).map (· + 1)).isSome = true := h2
      simpa using h
  | .lst l, .lst m, h1, h2 => by
    show PyData.eqvAll (toDs l) (toDs m) = eqVs l m
    refine eqvs_eq l m ?_ ?_
    · have h : ((depVs l).map (· + 1)).isSome = true := h1
      simpa using h
    · have h : ((depVs m).map (· + 1)).isSome = true := h2
      simpa using h
  | .loc _, _, h1, _ => by cases h1
  | .exn _ _, _, h1, _ => by cases h1
  | .dct _ _, _, h1, _ => by cases h1
  | .non, q, _, h2 => by cases q <;> first | rfl | cases h2
  | .bl _, q, _, h2 => by cases q <;> first | rfl | cases h2
  | .int _, q, _, h2 => by cases q <;> first | rfl | cases h2
  | .str _, q, _, h2 => by cases q <;> first | rfl | cases h2
  | .tup _, .non, _, _ => rfl
  | .tup _, .bl _, _, _ => rfl
  | .tup _, .int _, _, _ => rfl
  | .tup _, .str _, _, _ => rfl
  | .tup _, .lst _, _, _ => rfl
  | .tup _, .loc _, _, h2 => by cases h2
  | .tup _, .exn _ _, _, h2 => by cases h2
  | .tup _, .dct _ _, _, h2 => by cases h2
  | .lst _, .non, _, _ => rfl
  | .lst _, .bl _, _, _ => rfl
  | .lst _, .int _, _, _ => rfl
  | .lst _, .str _, _, _ => rfl
  | .lst _, .tup _, _, _ => rfl
  | .lst _, .loc _, _, h2 => by cases h2
  | .lst _, .exn _ _, _, h2 => by cases h2
  | .lst _, .dct _ _, _, h2 => by cases h2
theorem eqvs_eq : ∀ (p q : List Val), (depVs p).isSome = true → (depVs q).isSome = true → PyData.eqvAll (toDs p) (toDs q) = eqVs p q
  | [], [], _, _ => rfl
  | [], _ :: _, _, _ => rfl
  | _ :: _, [], _, _ => rfl
  | x :: xs, y :: ys, h1, h2 => by
    have one : ∀ {z : Val} {zs : List Val}, (depVs (z :: zs)).isSome = true → (depV z).isSome = true ∧ (depVs zs).isSome = true := fun {z zs} h => by
      have h : (match depV z, depVs zs with
        | some a, some b => some (max a b)
        | _, _ => none).isSome = true := h
      cases q : depV z with
      | none => rw [q] at h; cases h
      | some a =>
        cases q2 : depVs zs with
        | none => rw [q, q2] at h; cases h
        | some b => exact ⟨rfl, rfl⟩
    obtain ⟨a1, a2⟩ := one h1
    obtain ⟨b1, b2⟩ := one h2
    show (PyData.eqv (toD x) (toD y) && PyData.eqvAll (toDs xs) (toDs ys)) = (eqV x y && eqVs xs ys)
    rw [eqv_eq x y a1 b1, eqvs_eq xs ys a2 b2]
end
/-- borrowed data, read -/
theorem KB.dp {p : Val} {v : V} (h : KB I K W H p v) (e : datV p = true) : L2.Dp K H v (toD p) ∧ SeqAt.shaped (toD p) = true ∧ (depV p).isSome = true := by
  unfold datV at e
  cases q : depV p with
  | none => rw [q] at e; cases e
  | some n =>
    rw [q] at e
    have e : n ≤ 60 := of_decide_eq_true e
    have fin : ∀ {d : PyData}, d.canLay0 = true → d.depth ≤ n → SeqAt.shaped d = true := fun {d} h1 h2 => by
      unfold SeqAt.shaped
      rw [h1]
      exact decide_eq_true (by omega)
    cases p with
    | lst l =>
      obtain ⟨a, xs, rfl, h1, h2⟩ := h
      have e' : (depVs l).map (· + 1) = some n := q
      cases q2 : depVs l with
      | none => rw [q2] at e'; cases e'
      | some m =>
        rw [q2] at e'
        cases e'
        obtain ⟨h3, h4, h5⟩ := deps_ok l xs m q2 h2
        exact ⟨.lst h1.sq h3, fin h4 (Nat.succ_le_succ h5), rfl⟩
    | _ =>
      obtain ⟨h1, h2, h3⟩ := dep_ok (I := I) (W := W) _ v n q h
      exact ⟨h1, fin h2 h3, rfl⟩
theorem ok_eq : R2Ok I K (rEqD K) (fun x y => (cmpV .eq x y).map .bl) := by
  intro W H S x y z xv yv Q w s hx hy hf d
  have hf' : (if (datV x && datV y) = true then some (eqV x y) else none).map Val.bl = some z := hf
  by_cases h : (datV x && datV y) = true
  · rw [if_pos h] at hf'
    obtain ⟨e1, e2⟩ := Bool.and_eq_true_iff.mp h
    obtain ⟨d1, s1, i1⟩ := hx.dp e1
    obtain ⟨d2, s2, i2⟩ := hy.dp e2
    cases hf'
    exact ⟨_, _, d1, d2, s1, s2, by rw [eqv_eq x y i1 i2]; exact d.imm w s rfl⟩
  · rw [if_neg h] at hf'
    cases hf'
theorem ok_ne : R2Ok I K (rNeD K) (fun x y => (cmpV .ne x y).map .bl) := by
  intro W H S x y z xv yv Q w s hx hy hf d
  have hf' : (if (datV x && datV y) = true then some (!eqV x y) else none).map Val.bl = some z := hf
  by_cases h : (datV x && datV y) = true
  · rw [if_pos h] at hf'
    obtain ⟨e1, e2⟩ := Bool.and_eq_true_iff.mp h
    obtain ⟨d1, s1, i1⟩ := hx.dp e1
    obtain ⟨d2, s2, i2⟩ := hy.dp e2
    cases hf'
    exact ⟨_, _, d1, d2, s1, s2, by rw [eqv_eq x y i1 i2]; exact d.imm w s rfl⟩
  · rw [if_neg h] at hf'
    cases hf'
end
end Pi

end
section
set_option linter.all false
set_option maxRecDepth 100000
/-! PiD: comparisons, items, slices, built-ins by values. -/
namespace Pi
open PySem PySem.Spec PyProof.Rows L2
section
variable {I : XI} {K : PySem.W.Frag} {W : Wd} {H : Hp} {S : Store} {Q : VK}

abbrev rStrs (r : Str → Str → Bool) : R2 := fun x y H Q => ∃ i j, x = .str i ∧ y = .str j ∧ Q (.bl (r i j)) H
/-- ints or texts in order -/
theorem ok_ord {r : Int → Int → Bool} {q : Str → Str → Bool} {f : Val → Val → Option Bool}
    (hf : ∀ x y b, f x y = some b → (∃ i j, x = .int i ∧ y = .int j ∧ b = r i j) ∨ ∃ i j, x = .str i ∧ y = .str j ∧ b = q i j) : R2Ok I K (fun x y H Q => (rI0 fun i j => .bl (r i j)) x y H Q ∨ rStrs q x y H Q) (fun x y => (f x y).map .bl) := by
  intro W H S x y z xv yv Q w s hx hy h d
  replace h : (f x y).map Val.bl = some z := h
  cases e : f x y with
  | none => rw [e] at h; cases h
  | some b =>
    rw [e] at h
    cases h
    rcases hf x y b e with ⟨i, j, rfl, rfl, rfl⟩ | ⟨i, j, rfl, rfl, rfl⟩
    · cases hx
      cases hy
      exact .inl ⟨i, j, rfl, rfl, d.imm w s rfl⟩
    · obtain ⟨rfl, _⟩ := hx
      obtain ⟨rfl, _⟩ := hy
      exact .inr ⟨i, j, rfl, rfl, d.imm w s rfl⟩
theorem ok_lt : R2Ok I K (fun x y H Q => (rI0 fun i j => .bl (decide (i < j))) x y H Q ∨ rStrs (fun i j => decide (i.cps.toList < j.cps.toList)) x y H Q) (fun x y => (cmpV .lt x y).map .bl) := ok_ord (r := fun i j => decide (i < j)) (q := fun i j => decide (i.cps.toList < j.cps.toList)) (by intro x y b h; cases x <;> cases y <;> first | (cases h; done) | (injection h with h; exact .inl ⟨_, _, rfl, rfl, h.symm⟩) | (injection h with h; exact .inr ⟨_, _, rfl, rfl, h.symm⟩))
theorem ok_le : R2Ok I K (fun x y H Q => (rI0 fun i j => .bl (decide (i ≤ j))) x y H Q ∨ rStrs (fun i j => !decide (j.cps.toList < i.cps.toList)) x y H Q) (fun x y => (cmpV .le x y).map .bl) := ok_ord (r := fun i j => decide (i ≤ j)) (q := fun i j => !decide (j.cps.toList < i.cps.toList)) (by intro x y b h; cases x <;> cases y <;> first | (cases h; done) | (injection h with h; exact .inl ⟨_, _, rfl, rfl, h.symm⟩) | (injection h with h; exact .inr ⟨_, _, rfl, rfl, h.symm⟩))
theorem ok_gt : R2Ok I K (fun x y H Q => (rI0 fun i j => .bl (decide (j < i))) x y H Q ∨ rStrs (fun i j => decide (j.cps.toList < i.cps.toList)) x y H Q) (fun x y => (cmpV .gt x y).map .bl) := ok_ord (r := fun i j => decide (j < i)) (q := fun i j => decide (j.cps.toList < i.cps.toList)) (by intro x y b h; cases x <;> cases y <;> first | (cases h; done) | (injection h with h; exact .inl ⟨_, _, rfl, rfl, h.symm⟩) | (injection h with h; exact .inr ⟨_, _, rfl, rfl, h.symm⟩))
theorem ok_ge : R2Ok I K (fun x y H Q => (rI0 fun i j => .bl (decide (j ≤ i))) x y H Q ∨ rStrs (fun i j => !decide (i.cps.toList < j.cps.toList)) x y H Q) (fun x y => (cmpV .ge x y).map .bl) := ok_ord (r := fun i j => decide (j ≤ i)) (q := fun i j => !decide (i.cps.toList < j.cps.toList)) (by intro x y b h; cases x <;> cases y <;> first | (cases h; done) | (injection h with h; exact .inl ⟨_, _, rfl, rfl, h.symm⟩) | (injection h with h; exact .inr ⟨_, _, rfl, rfl, h.symm⟩))
theorem KB.isn {p : Val} {v : V} (h : KB I K W H p v) : decide (v = .non) = isN p := by
  cases p with
  | non => cases h; rfl
  | bl _ => cases h; rfl
  | int _ => cases h; rfl
  | str _ => obtain ⟨rfl, _⟩ := h; rfl
  | tup _ => obtain ⟨_, _, rfl, _⟩ := h; rfl
  | lst _ => obtain ⟨_, _, rfl, _⟩ := h; rfl
  | loc _ => obtain ⟨_, rfl, _⟩ := h; rfl
  | exn _ _ => obtain ⟨_, _, _, _, _, rfl, _⟩ := h; rfl
  | dct _ _ => obtain ⟨_, _, rfl, _⟩ := h; rfl
theorem ok_isn : R2Ok I K (fun x y H Q => y = .non ∧ Q (.bl (decide (x = .non))) H) (fun x y => (cmpV .isn x y).map .bl) := by
  intro W H S x y z xv yv Q w s hx hy h d
  cases y <;> try (cases x <;> cases h; done)
  cases hy
  have e : z = .bl (isN x) := by cases x <;> (cases h; rfl)
  subst e
  exact ⟨rfl, by rw [hx.isn]; exact d.imm w s rfl⟩
theorem ok_nisn : R2Ok I K (fun x y H Q => y = .non ∧ Q (.bl (!decide (x = .non))) H) (fun x y => (cmpV .nisn x y).map .bl) := by
  intro W H S x y z xv yv Q w s hx hy h d
  cases y <;> try (cases x <;> cases h; done)
  cases hy
  have e : z = .bl (!isN x) := by cases x <;> (cases h; rfl)
  subst e
  exact ⟨rfl, by rw [hx.isn]; exact d.imm w s rfl⟩
theorem ok_isb : R2Ok I K rIsB (fun x y => (cmpV .isb x y).map .bl) := by
  intro W H S x y z xv yv Q w s hx hy h d
  cases x <;> cases y <;> try (cases h; done)
  cases hx
  cases hy
  cases h
  exact ⟨_, _, rfl, rfl, d.imm w s rfl⟩
theorem ok_nisb : R2Ok I K rNotB (fun x y => (cmpV .nisb x y).map .bl) := by
  intro W H S x y z xv yv Q w s hx hy h d
  cases x <;> cases y <;> try (cases h; done)
  cases hx
  cases hy
  cases h
  exact ⟨_, _, rfl, rfl, d.imm w s rfl⟩
theorem any_eqv {a : Val} (ha : (depV a).isSome = true) : ∀ {l : List Val}, (depVs l).isSome = true → (toDs l).any (fun z => PyData.eqv z (toD a)) = l.any fun y => eqV y a
  | [], _ => rfl
  | x :: xs, h => by
    have h : (match depV x, depVs xs with
      | some a, some b => some (max a b)
      | _, _ => none).isSome = true := h
    cases q : depV x with
    | none => rw [q] at h; cases h
    | some n =>
      cases q2 : depVs xs with
      | none => rw [q, q2] at h; cases h
      | some m =>
        show (PyData.eqv (toD x) (toD a) || (toDs xs).any _) = (eqV x a || xs.any _)
        rw [eqv_eq x a (by rw [q]; rfl) ha, any_eqv ha (by rw [q2]; rfl)]
/-- flat values: the same in L2's words -/
theorem flat_ok {p : Val} {v : V} (h : Rp I K W H p v) (f : Pi.flatV p = true) : L2.flatV v = true ∧ ∀ {q : Val} {u : V}, Rp I K W H q u → Pi.flatV q = true → L2.eqV v u = Pi.eqV p q := by
  cases p <;> try (cases f; done)
  all_goals first | obtain ⟨rfl, _⟩ := h | cases h
  all_goals refine ⟨rfl, fun {q u} hq fq => ?_⟩
  all_goals cases q <;> try (cases fq; done)
  all_goals first | obtain ⟨rfl, _⟩ := hq | cases hq
  all_goals rfl
theorem flats_ok {p : Val} {v : V} (h : Rp I K W H p v) (f : Pi.flatV p = true) : ∀ {l : List Val} {xs : List V}, Rps I K W H l xs → l.all Pi.flatV = true → xs.all L2.flatV = true ∧ (xs.any fun y => L2.eqV y v) = l.any fun y => Pi.eqV y p
  | [], _, h2, _ => by
    have e : _ = ([] : List V) := h2
    subst e
    exact ⟨rfl, rfl⟩
  | q :: l, _, h2, a => by
    obtain ⟨u, xs, rfl, h3, h4⟩ := h2
    rw [List.all_cons, Bool.and_eq_true_iff] at a
    obtain ⟨a1, a2⟩ := a
    obtain ⟨b1, b2⟩ := flats_ok h f h4 a2
    obtain ⟨c1, c2⟩ := flat_ok h3 a1
    exact ⟨by rw [List.all_cons, c1, b1]; rfl, by rw [List.any_cons, List.any_cons, b2, c2 h f]⟩
theorem flat_not {p : Val} (f : Pi.flatV p = true) : ∀ l, p ≠ .lst l := fun l e => by subst e; cases f
def rInA (K : PySem.W.Frag) : R2 := fun x y H Q => rInD K x y H Q ∨ rIn K false x y H Q ∨ ∃ (c : Nat) (z : Str), x = .str ⟨#[c]⟩ ∧ y = .str z ∧ Q (.bl (decide (c ∈ z.cps.toList))) H
def rNinA (K : PySem.W.Frag) : R2 := fun x y H Q => rNotInD K x y H Q ∨ rIn K true x y H Q ∨ ∃ (c : Nat) (z : Str), x = .str ⟨#[c]⟩ ∧ y = .str z ∧ Q (.bl (!decide (c ∈ z.cps.toList))) H
theorem one_sign {a : Str} {c : Nat} (h : a.cps.toList = [c]) : a = ⟨#[c]⟩ := by
  obtain ⟨cps⟩ := a
  have h : cps.toList = [c] := h
  have e : cps = #[c] := by rw [← Array.toArray_toList (xs := cps), h]
  rw [e]
theorem ok_in : R2Ok I K (rInA K) (fun x y => (cmpV .in_ x y).map .bl) := by
  intro W H S x y z xv yv Q w s hx hy h d
  cases y with
  | lst l =>
    have h : (if (datV x && datV (.lst l)) = true then some (l.any fun y => eqV y x) else none).map Val.bl = some z := by
      cases x <;> exact h
    by_cases c : (datV x && datV (.lst l)) = true
    · rw [if_pos c] at h
      obtain ⟨e1, e2⟩ := Bool.and_eq_true_iff.mp c
      obtain ⟨d1, s1, i1⟩ := hx.dp e1
      obtain ⟨d2, s2, i2⟩ := hy.dp e2
      cases h
      have i3 : (depVs l).isSome = true := by
        have i2 : ((depVs l).map (· + 1)).isSome = true := i2
        simpa using i2
      exact .inl ⟨_, toDs l, d1, d2, s1, s2, by rw [any_eqv i1 i3]; exact d.imm w s rfl⟩
    · rw [if_neg c] at h
      cases h
  | tup l =>
    have h : (if (flatV x && l.all flatV) = true then some (l.any fun y => eqV y x) else none).map Val.bl = some z := by
      cases x <;> exact h
    by_cases c : (flatV x && l.all flatV) = true
    · rw [if_pos c] at h
      obtain ⟨e1, e2⟩ := Bool.and_eq_true_iff.mp c
      obtain ⟨a, xs, rfl, h1, h2⟩ := hy
      have hx' := hx.of_not (flat_not e1)
      obtain ⟨b1, b2⟩ := flats_ok hx' e1 h2 e2
      cases h
      refine .inr (.inl ⟨a, xs, rfl, .inr h1, (flat_ok hx' e1).1, b1, ?_⟩)
      show Q (.bl (inV xv xs)) H
      unfold inV
      rw [b2]
      exact d.imm w s rfl
    · rw [if_neg c] at h
      cases h
  | str b =>
    cases x <;> try (cases h; done)
    rename_i a
    have h : (match a.cps.toList with
      | [c] => some (decide (c ∈ b.cps.toList))
      | _ => none).map Val.bl = some z := h
    split at h
    · rename_i c e
      cases h
      obtain ⟨rfl, _⟩ := hx
      obtain ⟨rfl, _⟩ := hy
      exact .inr (.inr ⟨c, b, by rw [one_sign e], rfl, d.imm w s rfl⟩)
    · cases h
  | _ => cases x <;> cases h
theorem ok_nin : R2Ok I K (rNinA K) (fun x y => (cmpV .nin x y).map .bl) := by
  intro W H S x y z xv yv Q w s hx hy h d
  cases y with
  | lst l =>
    have h : (if (datV x && datV (.lst l)) = true then some (!l.any fun y => eqV y x) else none).map Val.bl = some z := by
      cases x <;> exact h
    by_cases c : (datV x && datV (.lst l)) = true
    · rw [if_pos c] at h
      obtain ⟨e1, e2⟩ := Bool.and_eq_true_iff.mp c
      obtain ⟨d1, s1, i1⟩ := hx.dp e1
      obtain ⟨d2, s2, i2⟩ := hy.dp e2
      cases h
      have i3 : (depVs l).isSome = true := by
        have i2 : ((depVs l).map (· + 1)).isSome = true := i2
        simpa using i2
      exact .inl ⟨_, toDs l, d1, d2, s1, s2, by rw [any_eqv i1 i3]; exact d.imm w s rfl⟩
    · rw [if_neg c] at h
      cases h
  | tup l =>
    have h : (if (flatV x && l.all flatV) = true then some (!l.any fun y => eqV y x) else none).map Val.bl = some z := by
      cases x <;> exact h
    by_cases c : (flatV x && l.all flatV) = true
    · rw [if_pos c] at h
      obtain ⟨e1, e2⟩ := Bool.and_eq_true_iff.mp c
      obtain ⟨a, xs, rfl, h1, h2⟩ := hy
      have hx' := hx.of_not (flat_not e1)
      obtain ⟨b1, b2⟩ := flats_ok hx' e1 h2 e2
      cases h
      refine .inr (.inl ⟨a, xs, rfl, .inr h1, (flat_ok hx' e1).1, b1, ?_⟩)
      show Q (.bl (!inV xv xs)) H
      unfold inV
      rw [b2]
      exact d.imm w s rfl
    · rw [if_neg c] at h
      cases h
  | str b =>
    cases x <;> try (cases h; done)
    rename_i a
    have h : (match a.cps.toList with
      | [c] => some (!decide (c ∈ b.cps.toList))
      | _ => none).map Val.bl = some z := h
    split at h
    · rename_i c e
      cases h
      obtain ⟨rfl, _⟩ := hx
      obtain ⟨rfl, _⟩ := hy
      exact .inr (.inr ⟨c, b, by rw [one_sign e], rfl, d.imm w s rfl⟩)
    · cases h
  | _ => cases x <;> cases h
def copO : Cop → CmpOp
  | .eq => .Eq | .ne => .NotEq | .lt => .Lt | .le => .LtE | .gt => .Gt | .ge => .GtE | .isn => .Is | .nisn => .IsNot | .isb => .Is | .nisb => .IsNot | .in_ => .In | .nin => .NotIn
/-- every comparison -/
theorem cop_ok (X : Cx) (hu : X.A.units + 65 < cLine) (o : Cop) : ∃ r, OpR X (compareOp (copO o)) r ∧ ∀ I, R2Ok I X.K r (fun x y => (cmpV o x y).map .bl) := by
  cases o
  · exact ⟨_, op_eqD (by omega), fun _ => ok_eq⟩
  · exact ⟨_, op_neD (by omega), fun _ => ok_ne⟩
  · exact ⟨_, op_lt.or op_lt_str, fun _ => ok_lt⟩
  · exact ⟨_, op_le.or op_le_str, fun _ => ok_le⟩
  · exact ⟨_, op_gt.or op_gt_str, fun _ => ok_gt⟩
  · exact ⟨_, op_ge.or op_ge_str, fun _ => ok_ge⟩
  · exact ⟨_, op_isN, fun _ => ok_isn⟩
  · exact ⟨_, op_notN, fun _ => ok_nisn⟩
  · exact ⟨_, op_isBl, fun _ => ok_isb⟩
  · exact ⟨_, op_notBl, fun _ => ok_nisb⟩
  · exact ⟨_, (op_inD hu).or (op_in_seq.or op_in_sign), fun _ => ok_in⟩
  · exact ⟨_, (op_notInD hu).or (op_notIn_seq.or op_notIn_sign), fun _ => ok_nin⟩

/-! ### items -/
theorem atI_rep {l : List Val} {xs : List V} {i : Int} {p : Val} (h : Rps I K W H l xs) (e : Pi.atI l i = some p) : ∃ v, L2.atI xs i = some v ∧ Rp I K W H p v := by
  have ln := RepVs.length h
  unfold Pi.atI at e
  unfold L2.atI
  have q : L2.ixN xs.length i = Pi.ixN l.length i := by rw [ln] <;> rfl
  rw [q]
  cases q2 : Pi.ixN l.length i with
  | none => rw [q2] at e; cases e
  | some j =>
    rw [q2] at e
    exact h.get e
theorem Rp.kf {W0 : Wd} {p : Val} {v : V} (h : Rp I K W H p v) (n : ∀ l, p ≠ .lst l) : KF I K W H W0 p v := by
  cases p with
  | lst l => exact absurd rfl (n l)
  | _ => exact h
/-- a shared value has come -/
def DoneS (I : XI) (K : PySem.W.Frag) (W : Wd) (H : Hp) (S : Store) (z : Val) (Q : VK) : Prop :=
  ∀ W' H' x, W.le W' → Kp W.P H H' → WOk W' H' → StRep I K W' H' S → Rp I K W' H' z x → Q x H'
theorem ok_ix {x y z : Val} {xv yv : V} (w : WOk W H) (s : StRep I K W H S) (hx : KB I K W H x xv) (hy : KB I K W H y yv) (h : ixV S x y = some z) (d : DoneS I K W H S z Q) : rIx K xv yv H Q := by
  cases x with
  | lst l =>
    cases y <;> try (cases h; done)
    cases hy
    obtain ⟨a, xs, rfl, h1, h2⟩ := hx
    obtain ⟨v, e, r⟩ := atI_rep h2 h
    exact .inl ⟨a, xs, _, v, rfl, rfl, h1.sq, e, d W H v .refl .refl w s r⟩
  | tup l =>
    cases y <;> try (cases h; done)
    cases hy
    obtain ⟨a, xs, rfl, h1, h2⟩ := hx
    obtain ⟨v, e, r⟩ := atI_rep h2 h
    exact .inr (.inl ⟨a, xs, _, v, rfl, rfl, h1, e, d W H v .refl .refl w s r⟩)
  | str x =>
    cases y <;> try (cases h; done)
    cases hy
    rename_i i
    obtain ⟨rfl, hl, ho⟩ := hx
    have h : (Pi.atI x.cps.toList i).map (fun c => Val.str ⟨#[c]⟩) = some z := h
    cases e : Pi.atI x.cps.toList i with
    | none => rw [e] at h; cases h
    | some c =>
      rw [e] at h
      cases h
      have e' : L2.atI x.cps.toList i = some c := e
      refine .inr (.inr ⟨x, i, c, rfl, rfl, by rw [sizeLine_lim]; exact hl, e', d W H _ .refl .refl w s ⟨rfl, by show 1 ≤ lim; decide, ?_⟩⟩)
      have mem : c ∈ x.cps.toList := by
        unfold Pi.atI at e
        cases q : Pi.ixN x.cps.toList.length i with
        | none => rw [q] at e; cases e
        | some j => rw [q] at e; exact List.mem_of_getElem? e
      have ho : x.cps.all (· < 0x110000) = true := ho
      show (#[c] : Array Nat).all (· < 0x110000) = true
      rw [Array.all_eq_true'] at ho
      have := ho c (by simpa using mem)
      simpa using this
  | loc n =>
    cases y <;> try (cases h; done)
    cases hy
    rename_i i
    have h : (match S[n]? with
      | some (.lst l) => Pi.atI l i
      | some (.ro l) => Pi.atI l i
      | _ => none) = some z := h
    obtain ⟨a, rfl, ha⟩ := hx
    split at h
    · rename_i l e
      obtain ⟨b, hb, xs, h1, h2⟩ := s.ob n _ e
      rw [ha] at hb
      cases hb
      obtain ⟨v, e, r⟩ := atI_rep h2 h
      exact .inl ⟨a, xs, _, v, rfl, rfl, .of h1, e, d W H v .refl .refl w s r⟩
    · rename_i l e
      obtain ⟨b, hb, xs, h1, h2⟩ := s.ob n _ e
      rw [ha] at hb
      cases hb
      obtain ⟨v, e, r⟩ := atI_rep h2 h
      exact .inl ⟨a, xs, _, v, rfl, rfl, h1, e, d W H v .refl .refl w s r⟩
    · cases h
  | _ => cases h

/-! ### slices -/
theorem cut_rep {l : List Val} {xs : List V} {lo hi : Option Int} (h : Rps I K W H l xs) : Rps I K W H (cutL l lo hi) (cutV xs lo hi) := by
  have ln := RepVs.length h
  unfold cutL cutV
  have e : ∀ (d : Nat) (o : Option Int), Pi.sIx l.length d o = HT.sIx xs.length d o := fun d o => by
    rw [ln]
    cases o <;> rfl
  rw [e, e, ln]
  exact (h.drop _).take _
theorem cutL_id {α : Type} {l : List α} {lo hi : Option Int} (h1 : Pi.sIx l.length 0 lo = 0) (h2 : Pi.sIx l.length l.length hi = l.length) : cutL l lo hi = l := by
  unfold cutL
  rw [h1, h2]
  simp
def rSlAll (K : PySem.W.Frag) : V → Option Int → Option Int → Hp → VK → Prop := fun x lo hi H Q => rSlL K x lo hi H Q ∨ rSlA K x lo hi H Q ∨ rSlS x lo hi H Q
theorem ok_sl {x z : Val} {xv : V} {lo hi : Option Int} (w : WOk W H) (s : StRep I K W H S) (hx : KB I K W H x xv) (h : slV S x lo hi = some z) (d : Done I K W H S z Q) : rSlAll K xv lo hi H Q := by
  cases x with
  | lst l =>
    cases h
    obtain ⟨a, xs, rfl, h1, h2⟩ := hx
    exact .inl ⟨a, xs, rfl, h1.sq, fun p hp => d.newL w s (cut_rep h2) p hp⟩
  | tup l =>
    cases h
    obtain ⟨a, xs, rfl, h1, h2⟩ := hx
    have ln := RepVs.length h2
    have e : ∀ (d : Nat) (o : Option Int), Pi.sIx l.length d o = HT.sIx xs.length d o := fun d o => by
      rw [ln]
      cases o <;> rfl
    refine .inr (.inl ⟨a, xs, rfl, h1, fun ⟨e1, e2⟩ => ?_, fun _ p hp => d.newT w s (cut_rep h2) p hp⟩)
    rw [cutL_id (by rw [e]; exact e1) (by rw [e, ln]; exact e2)] at d
    exact d.imm w s ⟨a, xs, rfl, h1, h2⟩
  | str x =>
    cases h
    obtain ⟨rfl, hl, ho⟩ := hx
    refine .inr (.inr ⟨x, rfl, by rw [sizeLine_lim]; exact hl, ?_⟩)
    have e : cutS x lo hi = ⟨(cutL x.cps.toList lo hi).toArray⟩ := by
      unfold cutS cutL
      have e : ∀ (d : Nat) (o : Option Int), Pi.sIx x.cps.toList.length d o = HT.sIx x.length d o := fun d o => by
        rw [show x.cps.toList.length = x.length from Array.length_toList]
        cases o <;> rfl
      rw [e, e, show x.cps.toList.length = x.length from Array.length_toList]
    rw [e]
    refine d.imm w s ⟨rfl, ?_, ?_⟩
    · show (cutL x.cps.toList lo hi).toArray.size ≤ lim
      rw [List.size_toArray]
      unfold cutL
      rw [List.length_take, List.length_drop, Array.length_toList]
      have : x.cps.size ≤ lim := hl
      omega
    · have ho : x.cps.all (· < 0x110000) = true := ho
      show ((cutL x.cps.toList lo hi).toArray).all (· < 0x110000) = true
      rw [Array.all_eq_true'] at ho ⊢
      intro c hc
      refine ho c ?_
      have hc : c ∈ cutL x.cps.toList lo hi := by simpa using hc
      unfold cutL at hc
      have := List.mem_of_mem_drop (List.mem_of_mem_take hc)
      simpa using this
  | loc n =>
    have h : (match S[n]? with
      | some (.lst l) => some (.lst (cutL l lo hi))
      | some (.ro l) => some (.lst (cutL l lo hi))
      | _ => none) = some z := h
    obtain ⟨a, rfl, ha⟩ := hx
    split at h
    · rename_i l e
      cases h
      obtain ⟨b, hb, xs, h1, h2⟩ := s.ob n _ e
      rw [ha] at hb
      cases hb
      exact .inl ⟨a, xs, rfl, .of h1, fun p hp => d.newL w s (cut_rep h2) p hp⟩
    · rename_i l e
      cases h
      obtain ⟨b, hb, xs, h1, h2⟩ := s.ob n _ e
      rw [ha] at hb
      cases hb
      exact .inl ⟨a, xs, rfl, h1, fun p hp => d.newL w s (cut_rep h2) p hp⟩
    · cases h
  | _ => cases h

/-! ### truth -/
theorem ok_tru {x : Val} {xv : V} {b : Bool} (hx : KB I K W H x xv) (h : truV x = some b) : TruV K xv H b := by
  cases x with
  | non => cases hx; cases h; rfl
  | bl _ => cases hx; cases h; rfl
  | int _ => cases hx; cases h; rfl
  | str x =>
    obtain ⟨rfl, hl, _⟩ := hx
    cases h
    refine ⟨by rw [sizeLine_lim]; exact hl, ?_⟩
    rw [Bool.eq_iff_iff]
    simp
  | lst l =>
    obtain ⟨a, xs, rfl, h1, h2⟩ := hx
    cases h
    refine .inl ⟨xs, h1.sq, ?_⟩
    cases l <;> cases xs <;> first | rfl | (have := RepVs.length h2; simp at this)
  | tup l =>
    obtain ⟨a, xs, rfl, h1, h2⟩ := hx
    cases h
    refine .inr (.inl ⟨xs, h1, ?_⟩)
    cases l <;> cases xs <;> first | rfl | (have := RepVs.length h2; simp at this)
  | _ => cases h
end
end Pi

end
section
set_option linter.all false
set_option maxRecDepth 100000
/-! PiE: built-ins by values; the judgements. -/
namespace Pi
open PySem PySem.Spec PyProof.Rows L2
section
variable {I : XI} {K : PySem.W.Frag} {W : Wd} {H : Hp} {S : Store} {Q : VK}
def KBs (I : XI) (K : PySem.W.Frag) (W : Wd) (H : Hp) : List Val → List V → Prop
  | [], xs => xs = []
  | p :: ps, xs => ∃ v vs, xs = v :: vs ∧ KB I K W H p v ∧ KBs I K W H ps vs
/-- a call of values -/
def CallOk (I : XI) (K : PySem.W.Frag) (r : List V → Hp → VK → Prop) (f : Store → List Val → Option Val) : Prop :=
  ∀ (W : Wd) (H : Hp) (S : Store) (ps : List Val) (vs : List V) (z : Val) (Q : VK), WOk W H → StRep I K W H S → KBs I K W H ps vs → f S ps = some z → Done I K W H S z Q → r vs H Q
theorem one_of {p : Val} {vs : List V} (h : KBs I K W H [p] vs) : ∃ v, vs = [v] ∧ KB I K W H p v := by
  obtain ⟨v, ws, rfl, h1, h2⟩ := h
  have e : ws = [] := h2
  subst e
  exact ⟨v, rfl, h1⟩
theorem two_of {p q : Val} {vs : List V} (h : KBs I K W H [p, q] vs) : ∃ v u, vs = [v, u] ∧ KB I K W H p v ∧ KB I K W H q u := by
  obtain ⟨v, ws, rfl, h1, h2⟩ := h
  obtain ⟨u, rfl, h3⟩ := one_of h2
  exact ⟨v, u, rfl, h1, h3⟩
theorem biV_len {z : Val} {ps : List Val} (h : biV S .len ps = some z) : ∃ p, ps = [p] := by
  match ps, h with
  | [p], _ => exact ⟨p, rfl⟩
  | [], h => cases h
  | a :: b :: r, h => cases a <;> cases h
theorem c_len : CallOk I K (fun xs H Q => ∃ x n, xs = [x] ∧ LenV K x H n ∧ Q (.int n) H) (fun S => biV S .len) := by
  intro W H S ps vs z Q w s hv h d
  obtain ⟨p, rfl⟩ := biV_len h
  obtain ⟨v, rfl, hp⟩ := one_of hv
  cases p with
  | lst l =>
    cases h
    obtain ⟨a, xs, rfl, h1, h2⟩ := hp
    exact ⟨_, l.length, rfl, .inl ⟨xs, h1.sq, RepVs.length h2⟩, d.imm w s rfl⟩
  | tup l =>
    cases h
    obtain ⟨a, xs, rfl, h1, h2⟩ := hp
    exact ⟨_, l.length, rfl, .inr ⟨xs, h1, RepVs.length h2⟩, d.imm w s rfl⟩
  | str x =>
    cases h
    obtain ⟨rfl, hl, _⟩ := hp
    exact ⟨_, x.length, rfl, ⟨by rw [sizeLine_lim]; exact hl, rfl⟩, d.imm w s rfl⟩
  | loc n =>
    have h : (match S[n]? with
      | some (.lst l) => some (Val.int l.length)
      | some (.ro l) => some (Val.int l.length)
      | _ => none) = some z := h
    obtain ⟨a, rfl, ha⟩ := hp
    split at h
    · rename_i l e
      cases h
      obtain ⟨b, hb, xs, h1, h2⟩ := s.ob n _ e
      rw [ha] at hb
      cases hb
      exact ⟨_, l.length, rfl, .inl ⟨xs, .of h1, RepVs.length h2⟩, d.imm w s rfl⟩
    · rename_i l e
      cases h
      obtain ⟨b, hb, xs, h1, h2⟩ := s.ob n _ e
      rw [ha] at hb
      cases hb
      exact ⟨_, l.length, rfl, .inl ⟨xs, h1, RepVs.length h2⟩, d.imm w s rfl⟩
    · cases h
  | _ => cases h
theorem c_abs : CallOk I K (fun xs H Q => ∃ i, xs = [.int i] ∧ Q (.int (if i < 0 then -i else i)) H) (fun S => biV S .abs) := by
  intro W H S ps vs z Q w s hv h d
  match ps, h with
  | [.int i], h =>
    cases h
    obtain ⟨v, rfl, hp⟩ := one_of hv
    cases hp
    exact ⟨i, rfl, d.imm w s rfl⟩
theorem c_int : CallOk I K (fun xs H Q => (∃ i, xs = [.int i] ∧ Q (.int i) H) ∨ ∃ k, xs = [.bl k] ∧ Q (.int (if k then 1 else 0)) H) (fun S => biV S .int) := by
  intro W H S ps vs z Q w s hv h d
  match ps, h with
  | [.int i], h =>
    cases h
    obtain ⟨v, rfl, hp⟩ := one_of hv
    cases hp
    exact .inl ⟨i, rfl, d.imm w s rfl⟩
  | [.bl b], h =>
    cases h
    obtain ⟨v, rfl, hp⟩ := one_of hv
    cases hp
    exact .inr ⟨b, rfl, d.imm w s rfl⟩
theorem c_bool : CallOk I K (fun xs H Q => (∃ i, xs = [.int i] ∧ Q (.bl (i != 0)) H) ∨ ∃ k, xs = [.bl k] ∧ Q (.bl k) H) (fun S => biV S .bool) := by
  intro W H S ps vs z Q w s hv h d
  match ps, h with
  | [.int i], h =>
    cases h
    obtain ⟨v, rfl, hp⟩ := one_of hv
    cases hp
    exact .inl ⟨i, rfl, d.imm w s rfl⟩
  | [.bl b], h =>
    cases h
    obtain ⟨v, rfl, hp⟩ := one_of hv
    cases hp
    exact .inr ⟨b, rfl, d.imm w s rfl⟩
theorem strOk_of (x : String) : PyData.strOk (Str.ofString x) = true := by
  show (Str.ofString x).cps.all (· < 0x110000) = true
  rw [Array.all_eq_true']
  intro c hc
  have hc' : c ∈ (Str.ofString x).cps.toList := by simpa using hc
  have e : (Str.ofString x).cps.toList = x.toList.map Char.toNat := by
    exact signs_ofString x
  rw [e] at hc'
  obtain ⟨k, _, rfl⟩ := List.mem_map.mp hc'
  have v := k.valid
  have : k.toNat < 0x110000 := by
    rcases v with v | v
    · have : k.toNat < 0xd800 := v
      omega
    · exact v.2
  simpa using this
def rStrIB : List V → Hp → VK → Prop := fun xs H Q => (∃ i : Int, xs = [.int i] ∧ i.natAbs.log2 < 1920 ∧ Q (.str (toString i)) H) ∨ ∃ b, xs = [.bl b] ∧ Q (.str (if b then "True" else "False")) H
theorem call_strIB {X : Cx} : CallR X (.type "str") rStrIB := by
  intro pins s σ H xs us Q I r h
  rcases h with h | ⟨b, rfl, q⟩
  · exact call_str_int pins s σ H xs us Q I r h
  · obtain ⟨u, rfl, e⟩ := vals1 r
    cases e
    exact PySem.P.str_of_bool ⟨.str _, H, I.tok _, ⟨_, rfl⟩, q⟩
theorem c_str : CallOk I K rStrIB (fun S => biV S .str) := by
  intro W H S ps vs z Q w s hv h d
  match ps, h with
  | [.bl b], h =>
    cases h
    obtain ⟨v, rfl, hp⟩ := one_of hv
    cases hp
    exact .inr ⟨b, rfl, d.imm w s (by cases b <;> exact ⟨rfl, by decide +kernel, by decide +kernel⟩)⟩
  | [.int i], h =>
    have h : (if i.natAbs.log2 < 1920 then some (Val.str (toString i)) else none) = some z := h
    by_cases c : i.natAbs.log2 < 1920
    · rw [if_pos c] at h
      cases h
      obtain ⟨v, rfl, hp⟩ := one_of hv
      cases hp
      exact .inl ⟨i, rfl, c, d.imm w s ⟨rfl, by rw [← sizeLine_lim]; exact int_text_fits c, strOk_of _⟩⟩
    · rw [if_neg c] at h
      cases h
theorem c_tuple : CallOk I K (fun xs H Q => ∃ p ys, xs = [.ref p] ∧ ((SqL K H p ys ∧ ∀ l, H l = none → Q (.ref l) (upd H l (.tup ys))) ∨ (SqT K H p ys ∧ Q (.ref p) H))) (fun S => biV S .tuple) := by
  intro W H S ps vs z Q w s hv h d
  match ps, h with
  | [.lst l], h =>
    cases h
    obtain ⟨v, rfl, a, xs, rfl, h1, h2⟩ := one_of hv
    exact ⟨a, xs, rfl, .inl ⟨h1.sq, fun p hp => d.newT w s h2 p hp⟩⟩
  | [.tup l], h =>
    cases h
    obtain ⟨v, rfl, a, xs, rfl, h1, h2⟩ := one_of hv
    exact ⟨a, xs, rfl, .inr ⟨h1, d.imm w s ⟨a, xs, rfl, h1, h2⟩⟩⟩
theorem c_list : CallOk I K (fun xs H Q => ∃ p ys, xs = [.ref p] ∧ (SqL K H p ys ∨ SqT K H p ys) ∧ ∀ l, H l = none → Q (.ref l) (upd H l (.lst ys))) (fun S => biV S .list) := by
  intro W H S ps vs z Q w s hv h d
  match ps, h with
  | [.lst l], h =>
    cases h
    obtain ⟨v, rfl, a, xs, rfl, h1, h2⟩ := one_of hv
    exact ⟨a, xs, rfl, .inl h1.sq, fun p hp => d.newL w s h2 p hp⟩
  | [.tup l], h =>
    cases h
    obtain ⟨v, rfl, a, xs, rfl, h1, h2⟩ := one_of hv
    exact ⟨a, xs, rfl, .inr h1, fun p hp => d.newL w s h2 p hp⟩
theorem bls_rep : ∀ {l : List Val} {xs : List V} {bs : List Bool}, Rps I K W H l xs → blsV l = some bs → xs = bs.map V.bl := by
  intro l
  induction l with
  | nil =>
    intro xs bs h e
    have e1 : xs = [] := h
    cases e
    rw [e1] <;> rfl
  | cons p r ih =>
    intro xs bs h e
    obtain ⟨v, vs, rfl, h1, h2⟩ := h
    cases p <;> try (cases e; done)
    rename_i b
    have e : (blsV r).map (b :: ·) = some bs := e
    cases q : blsV r with
    | none => rw [q] at e; cases e
    | some cs =>
      rw [q] at e
      cases e
      cases h1
      rw [ih h2 q] <;> rfl
theorem ints_rep : ∀ {l : List Val} {xs : List V} {bs : List Int}, Rps I K W H l xs → intsV l = some bs → xs = bs.map V.int := by
  intro l
  induction l with
  | nil =>
    intro xs bs h e
    have e1 : xs = [] := h
    cases e
    rw [e1] <;> rfl
  | cons p r ih =>
    intro xs bs h e
    obtain ⟨v, vs, rfl, h1, h2⟩ := h
    cases p <;> try (cases e; done)
    rename_i b
    have e : (intsV r).map (b :: ·) = some bs := e
    cases q : intsV r with
    | none => rw [q] at e; cases e
    | some cs =>
      rw [q] at e
      cases e
      cases h1
      rw [ih h2 q] <;> rfl
theorem strs_rep : ∀ {l : List Val} {xs : List V} {bs : List Str}, Rps I K W H l xs → strsV l = some bs → xs = bs.map V.str ∧ ∀ b ∈ bs, PyData.strOk b = true := by
  intro l
  induction l with
  | nil =>
    intro xs bs h e
    have e1 : xs = [] := h
    cases e
    subst e1
    exact ⟨rfl, fun _ z => nomatch z⟩
  | cons p r ih =>
    intro xs bs h e
    obtain ⟨v, vs, rfl, h1, h2⟩ := h
    cases p <;> try (cases e; done)
    rename_i b
    have e : (strsV r).map (b :: ·) = some bs := e
    cases q : strsV r with
    | none => rw [q] at e; cases e
    | some cs =>
      rw [q] at e
      cases e
      obtain ⟨rfl, _, o⟩ := h1
      obtain ⟨e2, o2⟩ := ih h2 q
      subst e2
      exact ⟨rfl, fun c hc => by
        rcases List.mem_cons.mp hc with e | hc
        · rw [e]; exact o
        · exact o2 c hc⟩
theorem c_all : CallOk I K (rAll K) (fun S => biV S .all) := by
  intro W H S ps vs z Q w s hv h d
  match ps, h with
  | [.lst l], h =>
    have h : (blsV l).map (fun bs => Val.bl (bs.all id)) = some z := h
    cases q : blsV l with
    | none => rw [q] at h; cases h
    | some bs =>
      rw [q] at h
      cases h
      obtain ⟨v, rfl, a, xs, rfl, h1, h2⟩ := one_of hv
      exact ⟨a, bs, rfl, by rw [← bls_rep h2 q]; exact h1.sq, d.imm w s rfl⟩
theorem c_any : CallOk I K (rAny K) (fun S => biV S .any) := by
  intro W H S ps vs z Q w s hv h d
  match ps, h with
  | [.lst l], h =>
    have h : (blsV l).map (fun bs => Val.bl (bs.any id)) = some z := h
    cases q : blsV l with
    | none => rw [q] at h; cases h
    | some bs =>
      rw [q] at h
      cases h
      obtain ⟨v, rfl, a, xs, rfl, h1, h2⟩ := one_of hv
      exact ⟨a, bs, rfl, by rw [← bls_rep h2 q]; exact h1.sq, d.imm w s rfl⟩
theorem c_sum : CallOk I K (rSum K) (fun S => biV S .sum) := by
  intro W H S ps vs z Q w s hv h d
  match ps, h with
  | [.lst l], h =>
    have h : (intsV l).map (fun bs => Val.int bs.sum) = some z := h
    cases q : intsV l with
    | none => rw [q] at h; cases h
    | some bs =>
      rw [q] at h
      cases h
      obtain ⟨v, rfl, a, xs, rfl, h1, h2⟩ := one_of hv
      exact ⟨a, bs, rfl, by rw [← ints_rep h2 q]; exact h1.sq, d.imm w s rfl⟩
theorem c_min2 : CallOk I K (fun xs H Q => ∃ i j, xs = [.int i, .int j] ∧ Q (.int (if j < i then j else i)) H) (fun S => biV S .min2) := by
  intro W H S ps vs z Q w s hv h d
  match ps, h with
  | [.int i, .int j], h =>
    cases h
    obtain ⟨v, u, rfl, hp, hq⟩ := two_of hv
    cases hp
    cases hq
    exact ⟨i, j, rfl, d.imm w s rfl⟩
theorem c_max2 : CallOk I K (fun xs H Q => ∃ i j, xs = [.int i, .int j] ∧ Q (.int (if j > i then j else i)) H) (fun S => biV S .max2) := by
  intro W H S ps vs z Q w s hv h d
  match ps, h with
  | [.int i, .int j], h =>
    cases h
    obtain ⟨v, u, rfl, hp, hq⟩ := two_of hv
    cases hp
    cases hq
    exact ⟨i, j, rfl, d.imm w s rfl⟩
/-- repr of data: nothing is being shown below -/
def rRepr (K : PySem.W.Frag) : List V → Hp → VK → Prop := fun xs H Q => ∃ v d, xs = [v] ∧ Dp K H v d ∧ SeqAt.shaped d = true ∧ d.showable = true ∧ d.shown.length ≤ sizeLine ∧ Q (.str d.shown) H
theorem c_repr : CallOk I K (rRepr K) (fun S => biV S .repr) := by
  intro W H S ps vs z Q w s hv h d
  match ps, h with
  | [p], h =>
    have h : reprV p = some z := h
    unfold reprV at h
    split at h
    · rename_i c
      rw [Bool.and_eq_true] at c
      obtain ⟨c1, c2⟩ := c
      unfold reprOk at c2
      rw [Bool.and_eq_true, Bool.and_eq_true] at c2
      obtain ⟨⟨c2, c3⟩, c4⟩ := c2
      have c3 := of_decide_eq_true c3
      cases h
      obtain ⟨v, rfl, hp⟩ := one_of hv
      obtain ⟨h1, h2, _⟩ := KB.dp hp c1
      exact ⟨v, toD p, rfl, h1, h2, c2, by rw [sizeLine_lim]; exact c3, d.imm w s ⟨rfl, c3, c4⟩⟩
    · cases h
theorem call_repr {X : Cx} (hq : Quiet X.A) (hu : X.A.units + 65 < cLine) : CallR X (.builtin "repr") (rRepr X.K) := by
  intro pins s σ H xs us Q J hv q
  obtain ⟨v, d, rfl, h1, h2, h3, h4, q⟩ := q
  unfold SeqAt.shaped at h2
  rw [Bool.and_eq_true] at h2
  obtain ⟨h2, h5⟩ := h2
  have h5 := of_decide_eq_true h5
  have nd := PyData.hasDict_of_canLay d h2
  obtain ⟨u, rfl, hr⟩ := Vals.one hv
  obtain ⟨as, R⟩ := Dp.reads J d v u h1 hr
  have done : ∀ h' t tk, (∀ b o, s.heap.get? b = some o → h'.get? b = some o) → EP X pins σ Q (.str d.shown t) { s with heap := h', toks := tk } := fun h' t tk hk => ⟨V.str d.shown, H, J.kept hk, ⟨t, rfl⟩, q⟩
  cases R with
  | none => exact P.repr_of_none (done _ _ _ fun _ _ e => e)
  | bool b => exact P.repr_of_bool (done _ _ _ fun _ _ e => e)
  | int i t =>
    have c : decide (i.natAbs.log2 < 1920) = true := h3
    exact P.repr_of_int (of_decide_eq_true c) (done _ _ _ fun _ _ e => e)
  | str x t => exact P.repr_of_str (done _ _ _ fun _ _ e => e) h4
  | list a1 a2 a3 a4 => exact repr_of_reads' (h₀ := s.heap) (.list a1 a2 a3 a4) h3 (PyData.noDict_hsm nd) hq (by omega) (fun _ _ e => e) (fun h' t tk hk => done h' t tk hk) h4
  | tuple a1 a2 a3 a4 => exact repr_of_reads' (h₀ := s.heap) (.tuple a1 a2 a3 a4) h3 (PyData.noDict_hsm nd) hq (by omega) (fun _ _ e => e) (fun h' t tk hk => done h' t tk hk) h4
  | dict => cases nd
theorem maxI_ok : ∀ {ns : List Int} {m : Int}, maxI ns = some m → m ∈ ns ∧ ∀ y ∈ ns, y ≤ m
  | [x], m, h => by
    cases h
    exact ⟨List.mem_cons_self .., fun y hy => by simp at hy; omega⟩
  | x :: y :: r, m, h => by
    unfold maxI at h
    obtain ⟨k, hk, rfl⟩ := Option.map_eq_some_iff.mp h
    obtain ⟨h1, h2⟩ := maxI_ok hk
    by_cases c : k > x
    · rw [if_pos c]
      refine ⟨List.mem_cons_of_mem _ h1, fun z hz => ?_⟩
      rcases List.mem_cons.mp hz with e | hz
      · omega
      · exact h2 z hz
    · rw [if_neg c]
      refine ⟨List.mem_cons_self .., fun z hz => ?_⟩
      rcases List.mem_cons.mp hz with e | hz
      · omega
      · have := h2 z hz
        omega
theorem minI_ok : ∀ {ns : List Int} {m : Int}, minI ns = some m → m ∈ ns ∧ ∀ y ∈ ns, m ≤ y
  | [x], m, h => by
    cases h
    exact ⟨List.mem_cons_self .., fun y hy => by simp at hy; omega⟩
  | x :: y :: r, m, h => by
    unfold minI at h
    obtain ⟨k, hk, rfl⟩ := Option.map_eq_some_iff.mp h
    obtain ⟨h1, h2⟩ := minI_ok hk
    by_cases c : k < x
    · rw [if_pos c]
      refine ⟨List.mem_cons_of_mem _ h1, fun z hz => ?_⟩
      rcases List.mem_cons.mp hz with e | hz
      · omega
      · exact h2 z hz
    · rw [if_neg c]
      refine ⟨List.mem_cons_self .., fun z hz => ?_⟩
      rcases List.mem_cons.mp hz with e | hz
      · omega
      · have := h2 z hz
        omega
theorem insI_perm (x : Int) : ∀ l : List Int, (insI x l).Perm (x :: l)
  | [] => .refl _
  | y :: r => by
    unfold insI
    split
    · exact .refl _
    · exact ((insI_perm x r).cons y).trans (.swap ..)
theorem sortI_perm : ∀ l : List Int, (sortI l).Perm l
  | [] => .refl _
  | x :: r => (insI_perm x (sortI r)).trans ((sortI_perm r).cons x)
theorem insI_up (x : Int) : ∀ {l : List Int}, l.Pairwise (· ≤ ·) → (insI x l).Pairwise (· ≤ ·)
  | [], _ => List.pairwise_singleton ..
  | y :: r, h => by
    obtain ⟨h1, h2⟩ := List.pairwise_cons.mp h
    unfold insI
    split
    · rename_i c
      refine List.pairwise_cons.mpr ⟨fun z hz => ?_, h⟩
      rcases List.mem_cons.mp hz with e | hz
      · omega
      · have := h1 z hz
        omega
    · rename_i c
      refine List.pairwise_cons.mpr ⟨fun z hz => ?_, insI_up x h2⟩
      rcases List.mem_cons.mp ((insI_perm x r).mem_iff.mp hz) with e | hz
      · omega
      · exact h1 z hz
theorem sortI_up : ∀ l : List Int, (sortI l).Pairwise (· ≤ ·)
  | [] => .nil
  | x :: r => insI_up x (sortI_up r)
theorem up_eq : ∀ {a b : List Int}, a.Perm b → a.Pairwise (· ≤ ·) → b.Pairwise (· ≤ ·) → a = b
  | [], b, p, _, _ => (List.Perm.eq_nil p.symm).symm
  | x :: a, [], p, _, _ => absurd (List.Perm.eq_nil p) (by simp)
  | x :: a, y :: b, p, ha, hb => by
    obtain ⟨a1, a2⟩ := List.pairwise_cons.mp ha
    obtain ⟨b1, b2⟩ := List.pairwise_cons.mp hb
    have e : x = y := by
      have q1 : y ∈ x :: a := p.mem_iff.mpr (List.mem_cons_self ..)
      have q2 : x ∈ y :: b := p.mem_iff.mp (List.mem_cons_self ..)
      rcases List.mem_cons.mp q1 with z | z
      · exact z.symm
      · rcases List.mem_cons.mp q2 with u | u
        · exact u
        · have := a1 y z
          have := b1 x u
          omega
    subst e
    rw [up_eq (List.Perm.cons_inv p) a2 b2]
theorem c_maxL : CallOk I K (rMax K) (fun S => biV S .maxL) := by
  intro W H S ps vs z Q w s hv h d
  match ps, h with
  | [.lst l], h =>
    have h : (intsV l).bind (fun ns => (maxI ns).map Val.int) = some z := h
    obtain ⟨ns, q, h⟩ := Option.bind_eq_some_iff.mp h
    obtain ⟨m, hm, rfl⟩ := Option.map_eq_some_iff.mp h
    obtain ⟨v, rfl, a, xs, rfl, h1, h2⟩ := one_of hv
    obtain ⟨m1, m2⟩ := maxI_ok hm
    refine ⟨a, ns, rfl, by rw [← ints_rep h2 q]; exact h1.sq, List.length_pos_of_mem m1, fun m' a1 a2 => ?_⟩
    have e : m' = m := Int.le_antisymm (m2 m' a1) (a2 m m1)
    rw [e]
    exact d.imm w s rfl
theorem c_minL : CallOk I K (rMin K) (fun S => biV S .minL) := by
  intro W H S ps vs z Q w s hv h d
  match ps, h with
  | [.lst l], h =>
    have h : (intsV l).bind (fun ns => (minI ns).map Val.int) = some z := h
    obtain ⟨ns, q, h⟩ := Option.bind_eq_some_iff.mp h
    obtain ⟨m, hm, rfl⟩ := Option.map_eq_some_iff.mp h
    obtain ⟨v, rfl, a, xs, rfl, h1, h2⟩ := one_of hv
    obtain ⟨m1, m2⟩ := minI_ok hm
    refine ⟨a, ns, rfl, by rw [← ints_rep h2 q]; exact h1.sq, List.length_pos_of_mem m1, fun m' a1 a2 => ?_⟩
    have e : m' = m := Int.le_antisymm (a2 m m1) (m2 m' a1)
    rw [e]
    exact d.imm w s rfl
theorem reps_int : ∀ ns : List Int, Rps I K W H (ns.map Val.int) (ns.map V.int)
  | [] => (rfl : ([] : List V) = [])
  | n :: r => ⟨.int n, r.map V.int, rfl, rfl, reps_int r⟩
theorem leS_tot (a b : Str) : leS a b = true ∨ leS b a = true := by
  unfold leS
  by_cases h : b.cps.toList < a.cps.toList
  · right
    have : ¬ a.cps.toList < b.cps.toList := List.not_lt.mpr (List.le_of_lt h)
    rw [decide_eq_false this]
    rfl
  · left
    rw [decide_eq_false h]
    rfl
theorem leS_iff (a b : Str) : leS a b = true ↔ a.cps.toList ≤ b.cps.toList := by
  unfold leS
  rw [Bool.not_eq_true', decide_eq_false_iff_not]
  exact List.not_lt
theorem leS_trans {a b c : Str} (h : leS a b = true) (h2 : leS b c = true) : leS a c = true := by
  rw [leS_iff] at *
  exact List.le_trans h h2
theorem leS_anti {a b : Str} (h : leS a b = true) (h2 : leS b a = true) : a = b := by
  rw [leS_iff] at *
  have e : a.cps.toList = b.cps.toList := List.le_antisymm h h2
  have e2 : a.cps = b.cps := Array.toList_inj.mp e
  obtain ⟨x⟩ := a
  obtain ⟨y⟩ := b
  have e2 : x = y := e2
  rw [e2]
theorem insS_perm (x : Str) : ∀ l : List Str, (insS x l).Perm (x :: l)
  | [] => .refl _
  | y :: r => by
    unfold insS
    split
    · exact .refl _
    · exact ((insS_perm x r).cons y).trans (.swap ..)
theorem sortS_perm : ∀ l : List Str, (sortS l).Perm l
  | [] => .refl _
  | x :: r => (insS_perm x (sortS r)).trans ((sortS_perm r).cons x)
theorem insS_up (x : Str) : ∀ {l : List Str}, l.Pairwise (fun a b => leS a b = true) → (insS x l).Pairwise (fun a b => leS a b = true)
  | [], _ => List.pairwise_singleton ..
  | y :: r, h => by
    obtain ⟨h1, h2⟩ := List.pairwise_cons.mp h
    unfold insS
    split
    · rename_i c
      refine List.pairwise_cons.mpr ⟨fun z hz => ?_, h⟩
      rcases List.mem_cons.mp hz with e | hz
      · rw [e]
        exact c
      · exact leS_trans c (h1 z hz)
    · rename_i c
      have c' : leS y x = true := (leS_tot x y).resolve_left c
      refine List.pairwise_cons.mpr ⟨fun z hz => ?_, insS_up x h2⟩
      rcases List.mem_cons.mp ((insS_perm x r).mem_iff.mp hz) with e | hz
      · rw [e]
        exact c'
      · exact h1 z hz
theorem sortS_up : ∀ l : List Str, (sortS l).Pairwise (fun a b => leS a b = true)
  | [] => .nil
  | x :: r => insS_up x (sortS_up r)
theorem upS_eq : ∀ {a b : List Str}, a.Perm b → a.Pairwise (fun a b => leS a b = true) → b.Pairwise (fun a b => leS a b = true) → a = b
  | [], b, p, _, _ => (List.Perm.eq_nil p.symm).symm
  | x :: a, [], p, _, _ => absurd (List.Perm.eq_nil p) (by simp)
  | x :: a, y :: b, p, ha, hb => by
    obtain ⟨a1, a2⟩ := List.pairwise_cons.mp ha
    obtain ⟨b1, b2⟩ := List.pairwise_cons.mp hb
    have e : x = y := by
      have q1 : y ∈ x :: a := p.mem_iff.mpr (List.mem_cons_self ..)
      have q2 : x ∈ y :: b := p.mem_iff.mp (List.mem_cons_self ..)
      rcases List.mem_cons.mp q1 with z | z
      · exact z.symm
      · rcases List.mem_cons.mp q2 with u | u
        · exact u
        · exact leS_anti (a1 y z) (b1 x u)
    subst e
    rw [upS_eq (List.Perm.cons_inv p) a2 b2]
theorem risingS_up : ∀ {p : Str} {l : List Str}, PyProof.Rows.risingS p l = true → (p :: l).Pairwise (fun a b => leS a b = true)
  | p, [], _ => List.pairwise_singleton ..
  | p, x :: r, h => by
    have h : (!Spec.ltCps x.cps.toList p.cps.toList && PyProof.Rows.risingS x r) = true := h
    rw [Bool.and_eq_true] at h
    have i := risingS_up h.2
    obtain ⟨i1, _⟩ := List.pairwise_cons.mp i
    have px : leS p x = true := by
      unfold leS
      rw [PyProof.Rows.lt_meets]
      exact h.1
    refine List.pairwise_cons.mpr ⟨fun z hz => ?_, i⟩
    rcases List.mem_cons.mp hz with e | hz
    · rw [e]
      exact px
    · exact leS_trans px (i1 z hz)
theorem sortedS_up : ∀ {l : List Str}, PyProof.Rows.sortedS l = true → l.Pairwise (fun a b => leS a b = true)
  | [], _ => .nil
  | x :: r, h => risingS_up h
theorem reps_strS : ∀ {l : List Val} {xs : List V} {ys : List Str}, Rps I K W H l xs → strsV l = some ys → xs = ys.map V.str ∧ ∀ zs : List Str, (∀ z ∈ zs, z ∈ ys) → Rps I K W H (zs.map Val.str) (zs.map V.str) := by
  intro l xs ys r e
  have all : ∀ {l : List Val} {xs : List V} {ys : List Str}, Rps I K W H l xs → strsV l = some ys → xs = ys.map V.str ∧ ∀ y ∈ ys, y.length ≤ lim ∧ PyData.strOk y = true := by
    intro l
    induction l with
    | nil =>
      intro xs ys r e
      cases e
      exact ⟨(show xs = [] from r), fun y hy => by cases hy⟩
    | cons v l ih =>
      intro xs ys r e
      obtain ⟨u, us, rfl, r1, r2⟩ := r
      cases v with
      | str x =>
        obtain ⟨t, e1, rfl⟩ := Option.map_eq_some_iff.mp (show (strsV l).map (x :: ·) = some ys from e)
        obtain ⟨rfl, h⟩ := ih r2 e1
        obtain ⟨rfl, l1, l2⟩ := r1
        refine ⟨rfl, fun y hy => ?_⟩
        rcases List.mem_cons.mp hy with e | hy
        · rw [e]
          exact ⟨l1, l2⟩
        · exact h y hy
      | _ => cases e
  obtain ⟨h1, h2⟩ := all r e
  refine ⟨h1, fun zs => ?_⟩
  induction zs with
  | nil => exact fun _ => (rfl : ([] : List V) = [])
  | cons z zs ih => exact fun h => ⟨.str z, zs.map V.str, rfl, ⟨rfl, (h2 z (h z (List.mem_cons_self ..))).1, (h2 z (h z (List.mem_cons_self ..))).2⟩, ih fun y hy => h y (List.mem_cons_of_mem _ hy)⟩
def rSortedIS (K : PySem.W.Frag) : List V → Hp → VK → Prop := fun vs H Q => rSortedI K vs H Q ∨ rSortedS K vs H Q
theorem cr_sortedIS {X : Cx} : CallR X (.builtin "sorted") (rSortedIS X.K) := by
  intro pins s σ H xs us Q I r h
  rcases h with h | h
  · exact cr_sortedI pins s σ H xs us Q I r h
  · exact cr_sortedS pins s σ H xs us Q I r h
theorem c_sortI : CallOk I K (rSortedIS K) (fun S => biV S .sorted) := by
  intro W H S ps vs z Q w s hv h d
  match ps, h with
  | [.lst l], h =>
    have h : (match intsV l with
      | some ns => some (Val.lst ((sortI ns).map .int))
      | none => (strsV l).bind fun xs => if xs.length < 64 then some (.lst ((sortS xs).map .str)) else none) = some z := h
    obtain ⟨v, rfl, a, xs, rfl, h1, h2⟩ := one_of hv
    cases q : intsV l with
    | some ns =>
      rw [q] at h
      cases h
      refine .inl ⟨a, ns, rfl, by rw [← ints_rep h2 q]; exact h1.sq, fun ns' p p1 p2 hp => ?_⟩
      have e : ns' = sortI ns := up_eq (p1.trans (sortI_perm ns).symm) p2 (sortI_up ns)
      rw [e]
      exact d.newL w s (reps_int _) p hp
    | none =>
      rw [q] at h
      obtain ⟨ys, e1, h⟩ := Option.bind_eq_some_iff.mp h
      split at h
      · rename_i c
        cases h
        obtain ⟨rfl, g⟩ := reps_strS h2 e1
        refine .inr ⟨a, ys, rfl, h1.sq, c, fun ys' p p1 p2 hp => ?_⟩
        have e : ys' = sortS ys := upS_eq (p1.trans (sortS_perm ys).symm) (sortedS_up p2) (sortS_up ys)
        rw [e]
        exact d.newL w s (g _ fun z hz => (sortS_perm ys).mem_iff.mp hz) p hp
      · cases h
theorem nuLt_int (a b : Int) : nuLt (.int a) (.int b) = some (decide (a < b)) := rfl
theorem c_min3 : CallOk I K (rNuC3 nuMin3) (fun S => biV S .min3) := by
  intro W H S ps vs z Q w s hv h d
  match ps, h with
  | [.int i, .int j, .int k], h =>
    cases h
    obtain ⟨v, ws, rfl, hp, v2, ws2, rfl, hq, v3, ws3, rfl, hr, hn⟩ := hv
    cases hp
    cases hq
    cases hr
    have hn : ws3 = [] := hn
    subst hn
    refine ⟨.int i, .int j, .int k, _, rfl, ?_, d.imm w s rfl⟩
    show (nuMin2 (.int i) (.int j)).bind (fun m => nuMin2 m (.int k)) = _
    unfold nuMin2
    rw [nuLt_int]
    by_cases c : j < i
    · have c1 : decide (j < i) = true := decide_eq_true c
      rw [if_pos c, c1]
      show (nuLt (.int k) (.int j)).map (fun c => if c = true then V.int k else V.int j) = _
      rw [nuLt_int]
      by_cases e : k < j
      · rw [if_pos e, show decide (k < j) = true from decide_eq_true e]
        rfl
      · rw [if_neg e, show decide (k < j) = false from decide_eq_false e]
        rfl
    · have c1 : decide (j < i) = false := decide_eq_false c
      rw [if_neg c, c1]
      show (nuLt (.int k) (.int i)).map (fun c => if c = true then V.int k else V.int i) = _
      rw [nuLt_int]
      by_cases e : k < i
      · rw [if_pos e, show decide (k < i) = true from decide_eq_true e]
        rfl
      · rw [if_neg e, show decide (k < i) = false from decide_eq_false e]
        rfl
theorem c_max3 : CallOk I K (rNuC3 nuMax3) (fun S => biV S .max3) := by
  intro W H S ps vs z Q w s hv h d
  match ps, h with
  | [.int i, .int j, .int k], h =>
    cases h
    obtain ⟨v, ws, rfl, hp, v2, ws2, rfl, hq, v3, ws3, rfl, hr, hn⟩ := hv
    cases hp
    cases hq
    cases hr
    have hn : ws3 = [] := hn
    subst hn
    refine ⟨.int i, .int j, .int k, _, rfl, ?_, d.imm w s rfl⟩
    show (nuMax2 (.int i) (.int j)).bind (fun m => nuMax2 m (.int k)) = _
    unfold nuMax2
    rw [nuLt_int]
    by_cases c : j > i
    · have c1 : decide (i < j) = true := decide_eq_true c
      rw [if_pos c, c1]
      show (nuLt (.int j) (.int k)).map (fun c => if c = true then V.int k else V.int j) = _
      rw [nuLt_int]
      by_cases e : k > j
      · rw [if_pos e, show decide (j < k) = true from decide_eq_true e]
        rfl
      · rw [if_neg e, show decide (j < k) = false from decide_eq_false e]
        rfl
    · have c1 : decide (i < j) = false := decide_eq_false c
      rw [if_neg c, c1]
      show (nuLt (.int i) (.int k)).map (fun c => if c = true then V.int k else V.int i) = _
      rw [nuLt_int]
      by_cases e : k > i
      · rw [if_pos e, show decide (i < k) = true from decide_eq_true e]
        rfl
      · rw [if_neg e, show decide (i < k) = false from decide_eq_false e]
        rfl
/-- the name by which a built-in is called; whether it's a type -/
def biN : Bi → Option (Bool × String)
  | .len => some (false, "len") | .abs => some (false, "abs") | .int => some (true, "int") | .bool => some (true, "bool") | .str => some (true, "str")
  | .tuple => some (true, "tuple") | .list => some (true, "list") | .all => some (false, "all") | .any => some (false, "any") | .sum => some (false, "sum")
  | .min2 => some (false, "min") | .max2 => some (false, "max") | .repr => some (false, "repr") | .sorted => some (false, "sorted") | .min3 => some (false, "min") | .max3 => some (false, "max") | .minL => some (false, "min") | .maxL => some (false, "max") | _ => none
/-- every one of these -/
theorem bi_ok (X : Cx) (hc : X.calm = true) (hq : Quiet X.A) (hu : X.A.units + 65 < cLine) (b : Bi) (t : Bool) (n : String) (e : biN b = some (t, n)) :
    ∃ r, CallR X (if t then .type n else .builtin n) r ∧ ∀ I, CallOk I X.K r (fun S => biV S b) := by
  cases b <;> cases e
  · exact ⟨_, call_len, fun _ => c_len⟩
  · exact ⟨_, call_abs, fun _ => c_abs⟩
  · exact ⟨_, call_int1, fun _ => c_int⟩
  · exact ⟨_, call_strIB, fun _ => c_str⟩
  · exact ⟨_, call_tuple_of, fun _ => c_tuple⟩
  · exact ⟨_, call_list_of, fun _ => c_list⟩
  · exact ⟨_, cr_all hc, fun _ => c_all⟩
  · exact ⟨_, cr_any hc, fun _ => c_any⟩
  · exact ⟨_, call_min2 hc, fun _ => c_min2⟩
  · exact ⟨_, call_max2 hc, fun _ => c_max2⟩
  · exact ⟨_, call_repr hq hu, fun _ => c_repr⟩
  · exact ⟨_, cr_sortedIS, fun _ => c_sortI⟩
  · exact ⟨_, cr_sum hc, fun _ => c_sum⟩
  · exact ⟨_, call_bool1, fun _ => c_bool⟩
  · exact ⟨_, call_min3Nu hc, fun _ => c_min3⟩
  · exact ⟨_, call_max3Nu hc, fun _ => c_max3⟩
  · exact ⟨_, cr_min hc, fun _ => c_minL⟩
  · exact ⟨_, cr_max hc, fun _ => c_maxL⟩
end
end Pi

end
section
set_option linter.all false
set_option maxRecDepth 100000
/-! PiF: what an expression of the text comes to: the judgements. -/
namespace Pi
open PySem PySem.Spec PyProof.Rows L2

theorem PE.imp {X : Cx} {e : Expr} {t t' : TE} (h : PE X e t) (f : ∀ σ H Q, t' σ H Q → t σ H Q) : PE X e t' := ⟨fun pins s σ H Q I q => h.run pins s σ H Q I (f σ H Q q)⟩
theorem PT.imp {X : Cx} {e : Expr} {t t' : TT} (h : PT X e t) (f : ∀ σ H Q, t' σ H Q → t σ H Q) : PT X e t' := ⟨fun pins s σ H Q I q => h.run pins s σ H Q I (f σ H Q q)⟩
theorem PW.imp {X : Cx} {e : Expr} {t t' : TT} (h : PW X e t) (f : ∀ σ H Q, t' σ H Q → t σ H Q) : PW X e t' := ⟨fun w pins s σ H Q I q => h.run w pins s σ H Q I (f σ H Q q)⟩
theorem PA.imp {X : Cx} {e : List Expr} {t t' : TA} (h : PA X e t) (f : ∀ σ H Q, t' σ H Q → t σ H Q) : PA X e t' := ⟨fun pos pins s σ H Q I q => h.run pos pins s σ H Q I (f σ H Q q)⟩
theorem PSs.imp {X : Cx} {e : List Stmt} {t t' : TS} (h : PSs X e t) (f : ∀ D σ H, t' D σ H → t D σ H) : PSs X e t' := ⟨fun pins s σ H D I q => h.run pins s σ H D I (f D σ H q)⟩
theorem PS.imp {X : Cx} {e : Stmt} {t t' : TS} (h : PS X e t) (f : ∀ D σ H, t' D σ H → t D σ H) : PS X e t' := ⟨fun pins s σ H D I q => h.run pins s σ H D I (f D σ H q)⟩

/-- an exception that flies -/
def ExcOk (I : XI) (K : PySem.W.Frag) (W' : Wd) (H' : Hp) (y : Val) (cls : Value) (d : Option Addr) : Prop :=
  ∃ c x C dd f xv, y = .exn c x ∧ I.ce c = some C ∧ I.xf c = some f ∧ cls = .ref C ∧ d = some dd ∧ W'.R dd ∧ H' dd = some (.xd [((f : Str), xv)]) ∧ Rp I K W' H' x xv
/-- from one place to a later one -/
structure Nxt (I : XI) (K : PySem.W.Frag) (W : Wd) (H : Hp) (W' : Wd) (H' : Hp) (S' : Store) : Prop where
  le : W.le W'
  kp : Kp W.P H H'
  w : WOk W' H'
  s : StRep I K W' H' S'
theorem Nxt.trans {I : XI} {K : PySem.W.Frag} {W W1 W2 : Wd} {H H1 H2 : Hp} {S1 S2 : Store} (a : Nxt I K W H W1 H1 S1) (b : Nxt I K W1 H1 W2 H2 S2) : Nxt I K W H W2 H2 S2 :=
  ⟨a.le.trans b.le, a.kp.trans (b.kp.mono a.le.p), b.w, b.s⟩
abbrev Kd (α β : Type) := Wd → Wd → Hp → α → β → Prop
def Anti {α β : Type} (kd : Kd α β) : Prop := ∀ W W1 W' H' v x, W.le W1 → kd W1 W' H' v x → kd W W' H' v x
section
variable (I : XI) (K : PySem.W.Frag)
def kS : Kd Val V := fun _ W' H' v x => Rp I K W' H' v x
def kB : Kd Val V := fun _ W' H' v x => KB I K W' H' v x
def kF : Kd Val V := fun W W' H' v x => KF I K W' H' W v x
def kSs : Kd (List Val) (List V) := fun _ W' H' v x => Rps I K W' H' v x
def kBs : Kd (List Val) (List V) := fun _ W' H' v x => KBs I K W' H' v x
def kT : Kd Bool Bool := fun _ _ _ v x => v = x
def kO : Kd (Option Int) (Option Int) := fun _ _ _ v x => v = x
theorem kS_anti : Anti (kS I K) := fun _ _ _ _ _ _ _ h => h
theorem kB_anti : Anti (kB I K) := fun _ _ _ _ _ _ _ h => h
theorem kF_anti : Anti (kF I K) := fun W W1 W' H' v x le h => by
  cases v with
  | lst l =>
    obtain ⟨a, e, o, n⟩ := h
    exact ⟨a, e, o, fun z => n (le.p a z)⟩
  | _ => exact h
theorem kSs_anti : Anti (kSs I K) := fun _ _ _ _ _ _ _ h => h
theorem kBs_anti : Anti (kBs I K) := fun _ _ _ _ _ _ _ h => h
theorem kT_anti : Anti kT := fun _ _ _ _ _ _ _ h => h
theorem kO_anti : Anti kO := fun _ _ _ _ _ _ _ h => h
/-- what is wanted at a result -/
def At (E : XK) {α β : Type} (kd : Kd α β) (W : Wd) (H : Hp) (r : Res α) (Q : β → Hp → Prop) : Prop :=
  match r with
  | .ok v S' => ∀ W' H' x, Nxt I K W H W' H' S' → kd W W' H' v x → Q x H'
  | .exc y S' => ∀ W' H' cls d, Nxt I K W H W' H' S' → ExcOk I K W' H' y cls d → E cls d H'
  | .bad => False
def rd (E : L2.St → XK) {α β : Type} (O : List Nat) (kd : Kd α β) (m : Env → Store → Res α) : L2.St → Hp → (β → Hp → Prop) → Prop :=
  fun σ H Q => ∃ W ρ S, Sr I K W H O ρ σ S ∧ At I K (E σ) kd W H (m ρ S) Q
end
section
variable {I : XI} {K : PySem.W.Frag} {E : XK} {α β γ δ : Type} {W W1 : Wd} {H H1 : Hp} {S1 : Store} {O : List Nat}
theorem At.shift {kd : Kd α β} (an : Anti kd) {r : Res α} {Q : β → Hp → Prop} (n : Nxt I K W H W1 H1 S1) (h : At I K E kd W H r Q) : At I K E kd W1 H1 r Q := by
  cases r with
  | ok v S' => exact fun W' H' x n' k => h W' H' x (n.trans n') (an _ _ _ _ _ _ n.le k)
  | exc y S' => exact fun W' H' c d n' k => h W' H' c d (n.trans n') k
  | bad => exact h
theorem At.seq {kd1 : Kd α β} {kd2 : Kd γ δ} (an : Anti kd2) {r : Res α} {f : α → Store → Res γ} {Q : δ → Hp → Prop} {Q1 : β → Hp → Prop} (h : At I K E kd2 W H (r.bind f) Q)
    (k : ∀ v S1 W1 H1 x, r = .ok v S1 → Nxt I K W H W1 H1 S1 → kd1 W W1 H1 v x → At I K E kd2 W1 H1 (f v S1) Q → Q1 x H1) : At I K E kd1 W H r Q1 := by
  cases r with
  | ok v S' => exact fun W' H' x n kd => k v S' W' H' x rfl n kd (h.shift an n)
  | exc y S' => exact h
  | bad => exact h
theorem At.imp {kd1 kd2 : Kd α β} {r : Res α} {Q : β → Hp → Prop} (h : At I K E kd1 W H r Q) (f : ∀ W' H' v x, kd2 W W' H' v x → kd1 W W' H' v x) : At I K E kd2 W H r Q := by
  cases r with
  | ok v S' => exact fun W' H' x n k => h W' H' x n (f _ _ _ _ k)
  | exc y S' => exact h
  | bad => exact h
theorem At.here {kd : Kd α β} {v : α} {S' : Store} {Q : β → Hp → Prop} {x : β} (h : At I K E kd W H (.ok v S') Q) (w : WOk W H) (s : StRep I K W H S') (k : kd W W H v x) : Q x H := h W H x ⟨.refl, .refl, w, s⟩ k
theorem At.of {kd : Kd α β} {o : Option α} {S' : Store} {Q : β → Hp → Prop} (h : At I K E kd W H (.of o S') Q) : ∃ v, o = some v ∧ At I K E kd W H (.ok v S') Q := by
  cases o with
  | none => exact h.elim
  | some v => exact ⟨v, rfl, h⟩
theorem At.done {v : Val} {S' : Store} {Q : VK} (h : At I K E (kF I K) W H (.ok v S') Q) : Done I K W H S' v Q := fun W' H' x le kp w s k => h W' H' x ⟨le, kp, w, s⟩ k
theorem At.doneS {v : Val} {S' : Store} {Q : VK} (h : At I K E (kS I K) W H (.ok v S') Q) : DoneS I K W H S' v Q := fun W' H' x le kp w s k => h W' H' x ⟨le, kp, w, s⟩ k
theorem Sr.nxt {ρ : Env} {σ : L2.St} {S : Store} (h : Sr I K W H O ρ σ S) (n : Nxt I K W H W1 H1 S1) : Sr I K W1 H1 O ρ σ S1 := h.up n.le n.kp n.w n.s
variable {X : Cx} {e : Expr}
theorem je_share {E : L2.St → XK} {m : Env → Store → Res Val} (h : PE X e (rd I X.K E O (kF I X.K) m)) : PE X e (rd I X.K E O (kS I X.K) m) := by
  refine PE.imp h fun σ H Q ⟨W, ρ, S, sr, q⟩ => ⟨W, ρ, S, sr, ?_⟩
  cases e : m ρ S with
  | ok v S' =>
    rw [e] at q
    intro W' H' x n k
    obtain ⟨W2, h1, h2, h3, h4, h5, h6⟩ := KF.share n.le n.w n.s k
    exact q W2 H' x ⟨h1, n.kp, h4, h5⟩ h6
  | exc y S' => rw [e] at q; exact q
  | bad => rw [e] at q; exact q
theorem je_kb {E : L2.St → XK} {m : Env → Store → Res Val} (h : PE X e (rd I X.K E O (kS I X.K) m)) : PE X e (rd I X.K E O (kB I X.K) m) := by
  refine PE.imp h fun σ H Q ⟨W, ρ, S, sr, q⟩ => ⟨W, ρ, S, sr, ?_⟩
  cases e : m ρ S with
  | ok v S' =>
    rw [e] at q
    exact fun W' H' x n k => q W' H' x n (Rp.kb n.w k)
  | exc y S' => rw [e] at q; exact q
  | bad => rw [e] at q; exact q
theorem je_fb {E : L2.St → XK} {m : Env → Store → Res Val} (h : PE X e (rd I X.K E O (kF I X.K) m)) : PE X e (rd I X.K E O (kB I X.K) m) :=
  PE.imp h fun σ H Q ⟨W, ρ, S, sr, q⟩ => ⟨W, ρ, S, sr, q.imp fun _ _ _ _ k => KF.kb k⟩
theorem kSs_kBs {ps : List Val} {vs : List V} (w : WOk W H) : Rps I K W H ps vs → KBs I K W H ps vs := by
  induction ps generalizing vs with
  | nil => exact fun h => h
  | cons p ps ih =>
    rintro ⟨v, ws, e, h1, h2⟩
    exact ⟨v, ws, e, Rp.kb w h1, ih h2⟩
end

/-! ### the terms -/
section
variable {X : Cx} {I : XI} {E : L2.St → XK} {sg : Sig} {cf : String → List Val → Store → Res Val} {O : List Nat}
abbrev JE (X : Cx) (I : XI) (E : L2.St → XK) (O : List Nat) (kd : Kd Val V) (m : Env → Store → Res Val) (e : Expr) : Prop := PE X e (rd I X.K E O kd m)
theorem j_lv {i : Nat} {x : Str} {pos : Pos} (hN : X.N[i]? = some x) (hv : Vis X.env.scope x) (hd : (x == ("__debug__" : Str)) = false) (hcd : (x == ("__classdict__" : Str)) = false) (hO : i ∉ O) :
    JE X I E O (kS I X.K) (fun ρ S => evE sg cf ρ (.lv i) S) (.Name x pos) := by
  refine PE.imp (pe_var hN hv hd hcd) fun σ H Q ⟨W, ρ, S, sr, q⟩ => ?_
  simp only [evE] at q
  split at q
  · rename_i v hv'
    obtain ⟨u, h1, h2⟩ := sr.e.sh i v hv' hO
    exact ⟨u, h1, q.here sr.w sr.s h2⟩
  · exact q.elim
theorem j_lvB {i : Nat} {x : Str} {pos : Pos} (hN : X.N[i]? = some x) (hv : Vis X.env.scope x) (hd : (x == ("__debug__" : Str)) = false) (hcd : (x == ("__classdict__" : Str)) = false) :
    JE X I E O (kB I X.K) (fun ρ S => evE sg cf ρ (.lv i) S) (.Name x pos) := by
  refine PE.imp (pe_var hN hv hd hcd) fun σ H Q ⟨W, ρ, S, sr, q⟩ => ?_
  simp only [evE] at q
  split at q
  · rename_i v hv'
    by_cases hO : i ∈ O
    · obtain ⟨l, a, rfl, h1, h2, h3, xs, h4, h5⟩ := sr.e.ow i v hv' hO
      exact ⟨.ref a, h1, q.here sr.w sr.s ⟨a, xs, rfl, ⟨h2, h4⟩, h5⟩⟩
    · obtain ⟨u, h1, h2⟩ := sr.e.sh i v hv' hO
      exact ⟨u, h1, q.here sr.w sr.s (Rp.kb sr.w h2)⟩
  · exact q.elim
theorem j_int {i : Int} {j : Nat} {pos : Pos} : JE X I E O (kF I X.K) (fun ρ S => evE sg cf ρ (.cst (.int i)) S) (.Constant (.int i) j pos) :=
  PE.imp pe_int fun σ H Q ⟨W, ρ, S, sr, q⟩ => by
    simp only [evE] at q
    exact q.here sr.w sr.s (rfl : Rp I X.K W H (.int i) (.int i))
theorem j_bool {i : Bool} {j : Nat} {pos : Pos} : JE X I E O (kF I X.K) (fun ρ S => evE sg cf ρ (.cst (.bl i)) S) (.Constant (.bool i) j pos) :=
  PE.imp pe_bl fun σ H Q ⟨W, ρ, S, sr, q⟩ => by
    simp only [evE] at q
    exact q.here sr.w sr.s (rfl : Rp I X.K W H (.bl i) (.bl i))
theorem j_non {j : Nat} {pos : Pos} : JE X I E O (kF I X.K) (fun ρ S => evE sg cf ρ (.cst .non) S) (.Constant .none j pos) :=
  PE.imp pe_non fun σ H Q ⟨W, ρ, S, sr, q⟩ => by
    simp only [evE] at q
    exact q.here sr.w sr.s (rfl : Rp I X.K W H .non .non)
theorem j_str {x : Str} {j : Nat} {pos : Pos} (hl : x.length ≤ lim) (ho : PyData.strOk x = true) : JE X I E O (kF I X.K) (fun ρ S => evE sg cf ρ (.cst (.str x)) S) (.Constant (.str x) j pos) :=
  PE.imp pe_str fun σ H Q ⟨W, ρ, S, sr, q⟩ => by
    simp only [evE] at q
    exact q.here sr.w sr.s (show Rp I X.K W H (.str x) (.str x) from ⟨rfl, hl, ho⟩)
/-- a constant of the module -/
def GvOk (I : XI) (K : PySem.W.Frag) (mg : Str → Option Value) (x : Str) (p : Val) : Prop := ∃ v u, mg x = some u ∧ RelV v u ∧ ∀ H R μ, RepV I K H R μ p v
theorem j_gv {x : Str} {n : String} {p : Val} {pos : Pos} (g : GvOk I X.K X.mg x p) (hg : Gl X x) (hd : (x == ("__debug__" : Str)) = false) : JE X I E O (kS I X.K) (fun ρ S => evE sg cf ρ (.gv n p) S) (.Name x pos) := by
  obtain ⟨v, u, hm, hr, hp⟩ := g
  refine PE.imp (pe_glob hg hm hr hd) fun σ H Q ⟨W, ρ, S, sr, q⟩ => ?_
  simp only [evE] at q
  exact q.here sr.w sr.s (hp _ _ _)
/-- two terms, an operation -/
theorem two_rd {r : R2} {f : Val → Val → Option Val} (ok : R2Ok I X.K r f) {ma mb : Env → Store → Res Val} {σ : L2.St} {H : Hp} {Q : VK}
    (h : rd I X.K E O (kF I X.K) (fun ρ S => (ma ρ S).bind fun x S1 => (mb ρ S1).bind fun y S2 => .of (f x y) S2) σ H Q) : tOp r (rd I X.K E O (kB I X.K) ma) (rd I X.K E O (kB I X.K) mb) σ H Q := by
  obtain ⟨W, ρ, S, sr, q⟩ := h
  refine ⟨W, ρ, S, sr, q.seq (kF_anti _ _) fun x S1 W1 H1 xv e1 n1 k1 q1 => ?_⟩
  refine ⟨W1, ρ, S1, sr.nxt n1, q1.seq (kF_anti _ _) fun y S2 W2 H2 yv e2 n2 k2 q2 => ?_⟩
  obtain ⟨z, ez, q3⟩ := q2.of
  exact ok W2 H2 S2 x y z xv yv Q n2.w n2.s (KB.up n2.le n2.kp n1.w k1) k2 ez q3.done
theorem j_bin {o : Bop} {a b : IE} {ea eb : Expr} {pos : Pos} (ha : JE X I E O (kB I X.K) (fun ρ S => evE sg cf ρ a S) ea) (hb : JE X I E O (kB I X.K) (fun ρ S => evE sg cf ρ b S) eb) :
    JE X I E O (kF I X.K) (fun ρ S => evE sg cf ρ (.bin o a b) S) (.BinOp ea (bopO o) eb pos) := by
  obtain ⟨r, h1, h2⟩ := bop_ok X o
  refine PE.imp (pe_op h1 ha hb) fun σ H Q h => ?_
  simp only [evE] at h
  exact two_rd (h2 I) h
theorem j_neg {a : IE} {ea : Expr} {pos : Pos} (ha : JE X I E O (kB I X.K) (fun ρ S => evE sg cf ρ a S) ea) : JE X I E O (kF I X.K) (fun ρ S => evE sg cf ρ (.neg a) S) (.UnaryOp .USub ea pos) := by
  refine PE.imp (pe_un un_neg ha) fun σ H Q h => ?_
  obtain ⟨W, ρ, S, sr, q⟩ := h
  simp only [evE] at q
  refine ⟨W, ρ, S, sr, q.seq (kF_anti _ _) fun x S1 W1 H1 xv e1 n1 k1 q1 => ?_⟩
  cases x <;> try (exact q1.elim)
  rename_i i
  cases k1
  exact ⟨i, rfl, q1.here n1.w n1.s (show Rp I X.K W1 H1 (.int (-i)) (.int (-i)) from rfl)⟩
theorem cop_mark {o : Cop} {eb : Expr} (h : ∀ es k p, eb ≠ .Set es k p) : behindInMarks (copO o) eb = false := by
  cases eb <;> first | rfl | exact absurd rfl (h _ _ _)
theorem j_cmp {o : Cop} {a b : IE} {ea eb : Expr} {pos : Pos} (hu : X.A.units + 65 < cLine) (hs : ∀ es k p, eb ≠ .Set es k p) (ha : JE X I E O (kB I X.K) (fun ρ S => evE sg cf ρ a S) ea) (hb : JE X I E O (kB I X.K) (fun ρ S => evE sg cf ρ b S) eb) :
    JE X I E O (kF I X.K) (fun ρ S => evE sg cf ρ (.cmp o a b) S) (.Compare ea [copO o] [eb] pos) := by
  obtain ⟨r, h1, h2⟩ := cop_ok X hu o
  refine PE.imp (pe_cmpR h1 ha hb (cop_mark hs)) fun σ H Q h => ?_
  simp only [evE] at h
  exact two_rd (h2 I) h
abbrev JT (X : Cx) (I : XI) (E : L2.St → XK) (O : List Nat) (m : Env → Store → Res Bool) (e : Expr) : Prop := PT X e (rd I X.K E O kT m)
theorem jt_cmp {o : Cop} {a b : IE} {ea eb : Expr} {pos : Pos} (hu : X.A.units + 65 < cLine) (hs : ∀ es k p, eb ≠ .Set es k p) (ha : JE X I E O (kB I X.K) (fun ρ S => evE sg cf ρ a S) ea) (hb : JE X I E O (kB I X.K) (fun ρ S => evE sg cf ρ b S) eb) :
    JT X I E O (fun ρ S => evT sg cf ρ (.cmp o a b) S) (.Compare ea [copO o] [eb] pos) := by
  obtain ⟨r, h1, h2⟩ := cop_ok X hu o
  refine PT.imp (pt_cmpR h1 ha hb (cop_mark hs)) fun σ H Q h => ?_
  obtain ⟨W, ρ, S, sr, q⟩ := h
  refine two_rd (h2 I) ⟨W, ρ, S, sr, ?_⟩
  simp only [evT, evE] at q
  refine q.seq kT_anti fun x S1 W1 H1 xv e1 n1 k1 q1 => ?_
  have e2 : ∃ b, x = .bl b := by
    cases e3 : evE sg cf ρ a S with
    | ok x1 T1 =>
      rw [e3, Res.bind_ok] at e1
      cases e4 : evE sg cf ρ b T1 with
      | ok x2 T2 =>
        rw [e4, Res.bind_ok] at e1
        cases e5 : cmpV o x1 x2 with
        | none => rw [e5] at e1; cases e1
        | some c => rw [e5] at e1; cases e1; exact ⟨c, rfl⟩
      | exc y T2 => rw [e4] at e1; cases e1
      | bad => rw [e4] at e1; cases e1
    | exc y T1 => rw [e3] at e1; cases e1
    | bad => rw [e3] at e1; cases e1
  obtain ⟨b, rfl⟩ := e2
  cases k1
  exact ⟨b, rfl, q1.here n1.w n1.s rfl⟩
/-- any term as a test -/
theorem jt_any {a : IE} {ea : Expr} (he : ∀ whole, isTrue ea X.env whole = (do let v ← whole; standAt ea.pos; holding [v] (truthy v))) (ha : JE X I E O (kB I X.K) (fun ρ S => evE sg cf ρ a S) ea) :
    JT X I E O (fun ρ S => evT sg cf ρ a S) ea := by
  refine PT.imp (pt_truth ha he) fun σ H Q h => ?_
  obtain ⟨W, ρ, S, sr, q⟩ := h
  simp only [evT] at q
  refine ⟨W, ρ, S, sr, q.seq kT_anti fun x S1 W1 H1 xv e1 n1 k1 q1 => ?_⟩
  obtain ⟨b, eb, q2⟩ := q1.of
  exact ⟨b, ok_tru k1 eb, q2.here n1.w n1.s rfl⟩
theorem jt_not {a : IE} {ea : Expr} {pos : Pos} (ha : JT X I E O (fun ρ S => evT sg cf ρ a S) ea) : JT X I E O (fun ρ S => evT sg cf ρ (.not a) S) (.UnaryOp .Not ea pos) := by
  refine PT.imp (pt_not ha) fun σ H Q h => ?_
  obtain ⟨W, ρ, S, sr, q⟩ := h
  refine ⟨W, ρ, S, sr, ?_⟩
  simp only [evT, evE] at q ⊢
  cases e : evE sg cf ρ a S with
  | ok v S1 =>
    rw [e] at q
    simp only [Res.bind_ok] at q ⊢
    cases e2 : truV v with
    | none => rw [e2] at q; exact q.elim
    | some b =>
      rw [e2] at q
      intro W' H' x n k
      cases k
      exact q W' H' (!b) n rfl
  | exc y S1 => rw [e] at q; exact q
  | bad => rw [e] at q; exact q
theorem j_not {a : IE} {ea : Expr} {pos : Pos} (ha : JE X I E O (kB I X.K) (fun ρ S => evE sg cf ρ a S) ea) : JE X I E O (kF I X.K) (fun ρ S => evE sg cf ρ (.not a) S) (.UnaryOp .Not ea pos) := by
  refine ⟨fun pins s σ H Q J h => ?_⟩
  obtain ⟨W, ρ, S, sr, q⟩ := h
  simp only [evE] at q
  have h1 : rd I X.K E O (kB I X.K) (fun ρ S => evE sg cf ρ a S) σ H (fun x H1 => ∃ k, TruV X.K x H1 k ∧ Q (.bl (!k)) H1) := ⟨W, ρ, S, sr, q.seq (kF_anti _ _) fun x S1 W1 H1 xv e1 n1 k1 q1 => by
    obtain ⟨z, ez, q2⟩ := q1.of
    cases e2 : truV x with
    | none => rw [e2] at ez; cases ez
    | some b =>
      rw [e2] at ez
      cases ez
      exact ⟨b, ok_tru k1 e2, q2.here n1.w n1.s (show Rp I X.K W1 H1 (.bl (!b)) (.bl (!b)) from rfl)⟩⟩
  refine UnaryOp_ (thn (ha.run pins s σ H _ J h1) fun v s1 ⟨x, H1, J1, r1, k, t, q1⟩ => not_of ?_)
  refine thn (tru_ok pins s1 σ H1 x v (fun k H2 => Q (.bl (!k)) H2) J1 r1 ⟨k, t, q1⟩) fun b s2 ⟨H2, J2, q2⟩ => ⟨.bl (!b), H2, J2, rfl, q2⟩
theorem evAnd_cons (sg : Sig) (cf : String → List Val → Store → Res Val) (ρ : Env) (a b : IE) (r : List IE) (S : Store) : evAnd sg cf ρ (a :: b :: r) S = (evE sg cf ρ a S).bind fun v S1 => (match v with
    | .bl true => evAnd sg cf ρ (b :: r) S1
    | .bl false => .ok (.bl false) S1
    | _ => .bad) := by
  conv => lhs; unfold evAnd
  try rfl
theorem evOr_cons (sg : Sig) (cf : String → List Val → Store → Res Val) (ρ : Env) (a b : IE) (r : List IE) (S : Store) : evOr sg cf ρ (a :: b :: r) S = (evE sg cf ρ a S).bind fun v S1 => (match v with
    | .bl false => evOr sg cf ρ (b :: r) S1
    | .bl true => .ok (.bl true) S1
    | _ => .bad) := by
  conv => lhs; unfold evOr
  try rfl
/-- and, or of truths -/
theorem j_and1 {a : IE} {ea : Expr} {pos : Pos} {op : BoolOp} {kd : Kd Val V} (ha : JE X I E O kd (fun ρ S => evE sg cf ρ a S) ea) : JE X I E O kd (fun ρ S => evAnd sg cf ρ [a] S) (.BoolOp op [ea] pos) := by
  refine PE.imp (pe_one ha) fun σ H Q ⟨W, ρ, S, sr, q⟩ => ⟨W, ρ, S, sr, ?_⟩
  replace q : At I X.K (E σ) kd W H (evAnd sg cf ρ [a] S) Q := q
  have e : evAnd sg cf ρ [a] S = evE sg cf ρ a S := by
    simp only [evAnd]
    cases evE sg cf ρ a S <;> rfl
  rw [e] at q
  exact q
theorem j_or1 {a : IE} {ea : Expr} {pos : Pos} {op : BoolOp} {kd : Kd Val V} (ha : JE X I E O kd (fun ρ S => evE sg cf ρ a S) ea) : JE X I E O kd (fun ρ S => evOr sg cf ρ [a] S) (.BoolOp op [ea] pos) := by
  refine PE.imp (pe_one ha) fun σ H Q ⟨W, ρ, S, sr, q⟩ => ⟨W, ρ, S, sr, ?_⟩
  replace q : At I X.K (E σ) kd W H (evOr sg cf ρ [a] S) Q := q
  have e : evOr sg cf ρ [a] S = evE sg cf ρ a S := by
    simp only [evOr]
    cases evE sg cf ρ a S <;> rfl
  rw [e] at q
  exact q
theorem j_and {a b : IE} {r : List IE} {ea eb : Expr} {er : List Expr} {pos : Pos} (ha : JE X I E O (kB I X.K) (fun ρ S => evE sg cf ρ a S) ea) (hb : JE X I E O (kF I X.K) (fun ρ S => evAnd sg cf ρ (b :: r) S) (.BoolOp .And (eb :: er) pos)) :
    JE X I E O (kF I X.K) (fun ρ S => evAnd sg cf ρ (a :: b :: r) S) (.BoolOp .And (ea :: eb :: er) pos) := by
  refine PE.imp (pe_and ha hb) fun σ H Q ⟨W, ρ, S, sr, q⟩ => ⟨W, ρ, S, sr, ?_⟩
  replace q : At I X.K (E σ) (kF I X.K) W H (evAnd sg cf ρ (a :: b :: r) S) Q := q
  rw [evAnd_cons] at q
  refine q.seq (kF_anti _ _) fun x S1 W1 H1 xv e1 n1 k1 q1 => ?_
  cases x <;> try (exact q1.elim)
  rename_i c
  cases k1
  refine ⟨c, rfl, ?_⟩
  cases c with
  | true =>
    rw [if_pos rfl]
    exact ⟨W1, ρ, S1, sr.nxt n1, q1⟩
  | false =>
    rw [if_neg Bool.false_ne_true]
    exact q1.here n1.w n1.s (show Rp I X.K W1 H1 (.bl false) (.bl false) from rfl)
theorem j_or {a b : IE} {r : List IE} {ea eb : Expr} {er : List Expr} {pos : Pos} (ha : JE X I E O (kB I X.K) (fun ρ S => evE sg cf ρ a S) ea) (hb : JE X I E O (kF I X.K) (fun ρ S => evOr sg cf ρ (b :: r) S) (.BoolOp .Or (eb :: er) pos)) :
    JE X I E O (kF I X.K) (fun ρ S => evOr sg cf ρ (a :: b :: r) S) (.BoolOp .Or (ea :: eb :: er) pos) := by
  refine PE.imp (pe_or ha hb) fun σ H Q ⟨W, ρ, S, sr, q⟩ => ⟨W, ρ, S, sr, ?_⟩
  replace q : At I X.K (E σ) (kF I X.K) W H (evOr sg cf ρ (a :: b :: r) S) Q := q
  rw [evOr_cons] at q
  refine q.seq (kF_anti _ _) fun x S1 W1 H1 xv e1 n1 k1 q1 => ?_
  cases x <;> try (exact q1.elim)
  rename_i c
  cases k1
  refine ⟨c, rfl, ?_⟩
  cases c with
  | false =>
    rw [if_neg Bool.false_ne_true]
    exact ⟨W1, ρ, S1, sr.nxt n1, q1⟩
  | true =>
    rw [if_pos rfl]
    exact q1.here n1.w n1.s (show Rp I X.K W1 H1 (.bl true) (.bl true) from rfl)
/-- .. as tests -/
def evAndT (sg : Sig) (cf : String → List Val → Store → Res Val) (ρ : Env) (es : List IE) (S : Store) : Res Bool := (evAnd sg cf ρ es S).bind fun v S1 => .of (truV v) S1
def evOrT (sg : Sig) (cf : String → List Val → Store → Res Val) (ρ : Env) (es : List IE) (S : Store) : Res Bool := (evOr sg cf ρ es S).bind fun v S1 => .of (truV v) S1
abbrev JW (X : Cx) (I : XI) (E : L2.St → XK) (O : List Nat) (m : Env → Store → Res Bool) (e : Expr) : Prop := PW X e (rd I X.K E O kT m)
theorem jw_and1 {a : IE} {ea : Expr} {pos : Pos} (ha : JT X I E O (fun ρ S => evT sg cf ρ a S) ea) : JW X I E O (fun ρ S => evAndT sg cf ρ [a] S) (.BoolOp .And [ea] pos) := by
  refine PW.imp (pw_and1 ha) fun σ H Q ⟨W, ρ, S, sr, q⟩ => ⟨W, ρ, S, sr, ?_⟩
  replace q : At I X.K (E σ) kT W H (evAndT sg cf ρ [a] S) Q := q
  have e : evAndT sg cf ρ [a] S = evT sg cf ρ a S := by
    simp only [evAndT, evAnd, evT]
    cases evE sg cf ρ a S <;> rfl
  rw [e] at q
  exact q
theorem jw_or1 {a : IE} {ea : Expr} {pos : Pos} (ha : JT X I E O (fun ρ S => evT sg cf ρ a S) ea) : JW X I E O (fun ρ S => evOrT sg cf ρ [a] S) (.BoolOp .Or [ea] pos) := by
  refine PW.imp (pw_or1 ha) fun σ H Q ⟨W, ρ, S, sr, q⟩ => ⟨W, ρ, S, sr, ?_⟩
  replace q : At I X.K (E σ) kT W H (evOrT sg cf ρ [a] S) Q := q
  have e : evOrT sg cf ρ [a] S = evT sg cf ρ a S := by
    simp only [evOrT, evOr, evT]
    cases evE sg cf ρ a S <;> rfl
  rw [e] at q
  exact q
theorem jw_and {a b : IE} {r : List IE} {ea eb : Expr} {er : List Expr} {pos : Pos} (ha : JT X I E O (fun ρ S => evT sg cf ρ a S) ea) (hb : JW X I E O (fun ρ S => evAndT sg cf ρ (b :: r) S) (.BoolOp .And (eb :: er) pos)) :
    JW X I E O (fun ρ S => evAndT sg cf ρ (a :: b :: r) S) (.BoolOp .And (ea :: eb :: er) pos) := by
  refine PW.imp (pw_and ha hb) fun σ H Q ⟨W, ρ, S, sr, q⟩ => ⟨W, ρ, S, sr, ?_⟩
  replace q : At I X.K (E σ) kT W H ((evAnd sg cf ρ (a :: b :: r) S).bind fun v S1 => .of (truV v) S1) Q := q
  rw [evAnd_cons] at q
  show At I X.K (E σ) kT W H ((evE sg cf ρ a S).bind fun v S1 => .of (truV v) S1) _
  cases e : evE sg cf ρ a S with
  | ok v S1 =>
    rw [e] at q
    simp only [Res.bind_ok] at q ⊢
    cases v <;> try (exact q.elim)
    rename_i c
    intro W1 H1 x n k
    have k : c = x := k
    subst k
    cases c with
    | true =>
      rw [if_pos rfl]
      exact ⟨W1, ρ, S1, sr.nxt n, q.shift kT_anti n⟩
    | false =>
      rw [if_neg Bool.false_ne_true]
      exact q W1 H1 false n rfl
  | exc y S1 => rw [e] at q; exact q
  | bad => rw [e] at q; exact q
theorem jw_or {a b : IE} {r : List IE} {ea eb : Expr} {er : List Expr} {pos : Pos} (ha : JT X I E O (fun ρ S => evT sg cf ρ a S) ea) (hb : JW X I E O (fun ρ S => evOrT sg cf ρ (b :: r) S) (.BoolOp .Or (eb :: er) pos)) :
    JW X I E O (fun ρ S => evOrT sg cf ρ (a :: b :: r) S) (.BoolOp .Or (ea :: eb :: er) pos) := by
  refine PW.imp (pw_or ha hb) fun σ H Q ⟨W, ρ, S, sr, q⟩ => ⟨W, ρ, S, sr, ?_⟩
  replace q : At I X.K (E σ) kT W H ((evOr sg cf ρ (a :: b :: r) S).bind fun v S1 => .of (truV v) S1) Q := q
  rw [evOr_cons] at q
  show At I X.K (E σ) kT W H ((evE sg cf ρ a S).bind fun v S1 => .of (truV v) S1) _
  cases e : evE sg cf ρ a S with
  | ok v S1 =>
    rw [e] at q
    simp only [Res.bind_ok] at q ⊢
    cases v <;> try (exact q.elim)
    rename_i c
    intro W1 H1 x n k
    have k : c = x := k
    subst k
    cases c with
    | false =>
      rw [if_neg Bool.false_ne_true]
      exact ⟨W1, ρ, S1, sr.nxt n, q.shift kT_anti n⟩
    | true =>
      rw [if_pos rfl]
      exact q W1 H1 true n rfl
  | exc y S1 => rw [e] at q; exact q
  | bad => rw [e] at q; exact q
/-- a if c else b -/
theorem j_ite {kd : Kd Val V} (an : Anti kd) {c a b : IE} {ec ea eb : Expr} {pos : Pos} (hc : JT X I E O (fun ρ S => evT sg cf ρ c S) ec) (ha : JE X I E O kd (fun ρ S => evE sg cf ρ a S) ea) (hb : JE X I E O kd (fun ρ S => evE sg cf ρ b S) eb) :
    JE X I E O kd (fun ρ S => evE sg cf ρ (.ite c a b) S) (.IfExp ec ea eb pos) := by
  refine PE.imp (pe_ifExp hc ha hb) fun σ H Q ⟨W, ρ, S, sr, q⟩ => ⟨W, ρ, S, sr, ?_⟩
  simp only [evE] at q
  show At I X.K (E σ) kT W H ((evE sg cf ρ c S).bind fun v S1 => .of (truV v) S1) _
  cases e : evE sg cf ρ c S with
  | ok v S1 =>
    rw [e] at q
    simp only [Res.bind_ok] at q ⊢
    cases e2 : truV v with
    | none => rw [e2] at q; exact q.elim
    | some k =>
      rw [e2] at q
      intro W1 H1 x n k'
      have k' : k = x := k'
      subst k'
      cases k with
      | true =>
        rw [if_pos rfl]
        exact ⟨W1, ρ, S1, sr.nxt n, q.shift an n⟩
      | false =>
        rw [if_neg Bool.false_ne_true]
        exact ⟨W1, ρ, S1, sr.nxt n, q.shift an n⟩
  | exc y S1 => rw [e] at q; exact q
  | bad => rw [e] at q; exact q

/-! ### several -/
abbrev JA (X : Cx) (I : XI) (E : L2.St → XK) (O : List Nat) (kd : Kd (List Val) (List V)) (m : Env → Store → Res (List Val)) (es : List Expr) : Prop := PA X es (rd I X.K E O kd m)
theorem ja_nilB : JA X I E O (kBs I X.K) (fun ρ S => evEs sg cf ρ [] S) [] :=
  PA.imp pa_nil fun σ H Q ⟨W, ρ, S, sr, q⟩ => by
    simp only [evEs] at q
    exact q.here sr.w sr.s (show KBs I X.K W H [] [] from rfl)
theorem ja_nilS : JA X I E O (kSs I X.K) (fun ρ S => evEs sg cf ρ [] S) [] :=
  PA.imp pa_nil fun σ H Q ⟨W, ρ, S, sr, q⟩ => by
    simp only [evEs] at q
    exact q.here sr.w sr.s (show Rps I X.K W H [] [] from rfl)
theorem ja_consB {a : IE} {r : List IE} {ea : Expr} {er : List Expr} (ha : JE X I E O (kB I X.K) (fun ρ S => evE sg cf ρ a S) ea) (hr : JA X I E O (kBs I X.K) (fun ρ S => evEs sg cf ρ r S) er)
    (hs : starEach (ea :: er) X.env = (false, eval ea X.env) :: starEach er X.env) : JA X I E O (kBs I X.K) (fun ρ S => evEs sg cf ρ (a :: r) S) (ea :: er) := by
  refine PA.imp (pa_cons ha hr hs) fun σ H Q ⟨W, ρ, S, sr, q⟩ => ⟨W, ρ, S, sr, ?_⟩
  simp only [evEs] at q
  refine q.seq (kBs_anti _ _) fun x S1 W1 H1 xv e1 n1 k1 q1 => ⟨W1, ρ, S1, sr.nxt n1, q1.seq (kBs_anti _ _) fun ys S2 W2 H2 yv e2 n2 k2 q2 => ?_⟩
  exact q2.here n2.w n2.s (show KBs I X.K W2 H2 (x :: ys) (xv :: yv) from ⟨xv, yv, rfl, KB.up n2.le n2.kp n1.w k1, k2⟩)
theorem ja_consS {a : IE} {r : List IE} {ea : Expr} {er : List Expr} (ha : JE X I E O (kS I X.K) (fun ρ S => evE sg cf ρ a S) ea) (hr : JA X I E O (kSs I X.K) (fun ρ S => evEs sg cf ρ r S) er)
    (hs : starEach (ea :: er) X.env = (false, eval ea X.env) :: starEach er X.env) : JA X I E O (kSs I X.K) (fun ρ S => evEs sg cf ρ (a :: r) S) (ea :: er) := by
  refine PA.imp (pa_cons ha hr hs) fun σ H Q ⟨W, ρ, S, sr, q⟩ => ⟨W, ρ, S, sr, ?_⟩
  simp only [evEs] at q
  refine q.seq (kSs_anti _ _) fun x S1 W1 H1 xv e1 n1 k1 q1 => ⟨W1, ρ, S1, sr.nxt n1, q1.seq (kSs_anti _ _) fun ys S2 W2 H2 yv e2 n2 k2 q2 => ?_⟩
  exact q2.here n2.w n2.s (show Rps I X.K W2 H2 (x :: ys) (xv :: yv) from ⟨xv, yv, rfl, Rp.up n2.le n2.kp n1.w k1, k2⟩)
theorem evEs_len (ρ : Env) : ∀ {es : List IE} {S S' : Store} {vs : List Val}, evEs sg cf ρ es S = .ok vs S' → vs.length = es.length
  | [], _, _, _, h => by
    simp only [evEs] at h
    cases h
    rfl
  | e :: es, S, S', vs, h => by
    simp only [evEs] at h
    cases e1 : evE sg cf ρ e S with
    | ok v S1 =>
      rw [e1, Res.bind_ok] at h
      cases e2 : evEs sg cf ρ es S1 with
      | ok ws S2 =>
        rw [e2, Res.bind_ok] at h
        cases h
        rw [List.length_cons, List.length_cons, evEs_len ρ e2]
      | exc y T => rw [e2] at h; cases h
      | bad => rw [e2] at h; cases h
    | exc y T => rw [e1] at h; cases h
    | bad => rw [e1] at h; cases h
theorem j_tup {es : List IE} {ees : List Expr} {k : Nat} {pos : Pos} (hl : es.length ≤ lim) (h : JA X I E O (kSs I X.K) (fun ρ S => evEs sg cf ρ es S) ees) : JE X I E O (kF I X.K) (fun ρ S => evE sg cf ρ (.tup es) S) (.Tuple ees k pos) := by
  refine PE.imp (pe_tup h) fun σ H Q ⟨W, ρ, S, sr, q⟩ => ⟨W, ρ, S, sr, ?_⟩
  simp only [evE] at q
  refine q.seq (kF_anti _ _) fun vs S1 W1 H1 xs e1 n1 k1 q1 => ⟨?_, fun p hp => q1.done.newT n1.w n1.s k1 p hp⟩
  rw [← RepVs.length k1, evEs_len ρ e1, sizeLine_lim]
  exact hl
theorem j_lst {es : List IE} {ees : List Expr} {pos : Pos} (hl : es.length ≤ lim) (h : JA X I E O (kSs I X.K) (fun ρ S => evEs sg cf ρ es S) ees) : JE X I E O (kF I X.K) (fun ρ S => evE sg cf ρ (.lst es) S) (.List ees pos) := by
  refine PE.imp (pe_lst h) fun σ H Q ⟨W, ρ, S, sr, q⟩ => ⟨W, ρ, S, sr, ?_⟩
  simp only [evE] at q
  refine q.seq (kF_anti _ _) fun vs S1 W1 H1 xs e1 n1 k1 q1 => ⟨?_, fun p hp => q1.done.newL n1.w n1.s k1 p hp⟩
  rw [← RepVs.length k1, evEs_len ρ e1, sizeLine_lim]
  exact hl
/-- a list of the store -/
def Wd.box (W : Wd) (p : Addr) : Wd := { W with μ := W.μ ++ [p] }
theorem le_box {W : Wd} {p : Addr} : W.le (W.box p) := ⟨fun _ h => h, fun _ h => h, fun _ h _ => h, fun n a h => by
  show (W.μ ++ [p])[n]? = some a
  rw [List.getElem?_append_left (List.getElem?_eq_some_iff.mp h).1]
  exact h⟩
theorem j_box {es : List IE} {ees : List Expr} {pos : Pos} (hl : es.length ≤ lim) (h : JA X I E O (kSs I X.K) (fun ρ S => evEs sg cf ρ es S) ees) : JE X I E O (kF I X.K) (fun ρ S => evE sg cf ρ (.box es) S) (.List ees pos) := by
  refine PE.imp (pe_lst h) fun σ H Q ⟨W, ρ, S, sr, q⟩ => ⟨W, ρ, S, sr, ?_⟩
  simp only [evE] at q
  refine q.seq (kF_anti _ _) fun vs S1 W1 H1 xs e1 n1 k1 q1 => ⟨?_, fun p hp => ?_⟩
  · rw [← RepVs.length k1, evEs_len ρ e1, sizeLine_lim]
    exact hl
  · have kp : Kp W1.P H1 (upd H1 p (.lst xs)) := Kp.new hp
    have w1 := wok_new (o := .lst xs) hp n1.w
    have pn : p ∉ W1.μ := fun z => by
      obtain ⟨_, u, e⟩ := n1.w.mp p z
      rw [hp] at e
      cases e
    have w2 : WOk (W1.box p) (upd H1 p (.lst xs)) := ⟨w1.rp, w1.d, by
      show (W1.μ ++ [p]).Nodup
      rw [List.nodup_append]
      refine ⟨w1.nd, by simp, fun a ha b hb => ?_⟩
      have : b = p := by simpa using hb
      subst this
      rintro rfl
      exact pn ha, fun a ha => by
      rcases List.mem_append.mp ha with ha | ha
      · exact w1.mp a ha
      · have : a = p := by simpa using ha
        subst this
        exact ⟨n1.w.no hp, _, upd_same⟩⟩
    have l1 := n1.s.len
    have s2 : StRep I X.K (W1.box p) (upd H1 p (.lst xs)) (S1 ++ [.lst vs]) := by
      refine ⟨by show _ = (W1.μ ++ [p]).length; rw [List.length_append, List.length_append, l1]; rfl, fun n o e => ?_⟩
      by_cases hn : n < S1.length
      · rw [List.getElem?_append_left hn] at e
        obtain ⟨a, h1, h2⟩ := (st_new (o := .lst xs) hp n1.w n1.s).ob n o e
        refine ⟨a, le_box.m n a h1, ?_⟩
        cases o with
        | lst l =>
          obtain ⟨ys, h3, h4⟩ := h2
          exact ⟨ys, h3, RepVs.mono .refl (fun _ z => z) le_box.m _ _ h4⟩
        | ro l =>
          obtain ⟨ys, h3, h4⟩ := h2
          exact ⟨ys, h3, RepVs.mono .refl (fun _ z => z) le_box.m _ _ h4⟩
        | ins c fs => exact h2.elim
      · have en : n = S1.length := by
          have := (List.getElem?_eq_some_iff.mp e).1
          rw [List.length_append] at this
          have e1 : [Ob.lst vs].length = 1 := rfl
          omega
        subst en
        rw [List.getElem?_append_right (Nat.le_refl _), Nat.sub_self] at e
        have e : Ob.lst vs = o := by simpa using e
        subst e
        refine ⟨p, ?_, xs, upd_same, RepVs.mono (kp.mono n1.w.rp) (fun _ z => z) le_box.m _ _ k1⟩
        show (W1.μ ++ [p])[S1.length]? = some p
        rw [l1, List.getElem?_append_right (Nat.le_refl _), Nat.sub_self]
        rfl
    refine q1 (W1.box p) _ _ ⟨le_box, kp, w2, s2⟩ ?_
    show ∃ a, V.ref p = .ref a ∧ (W1.μ ++ [p])[S1.length]? = some a
    refine ⟨p, rfl, ?_⟩
    rw [l1, List.getElem?_append_right (Nat.le_refl _), Nat.sub_self]
    rfl
/-- a[i] -/
theorem j_ix {a i : IE} {ea ei : Expr} {pos : Pos} (hp : PlainIx ei) (ha : JE X I E O (kB I X.K) (fun ρ S => evE sg cf ρ a S) ea) (hi : JE X I E O (kB I X.K) (fun ρ S => evE sg cf ρ i S) ei) :
    JE X I E O (kS I X.K) (fun ρ S => evE sg cf ρ (.ix a i) S) (.Subscript ea ei pos) := by
  refine PE.imp (pe_ix ix_seq ha hi hp) fun σ H Q ⟨W, ρ, S, sr, q⟩ => ⟨W, ρ, S, sr, ?_⟩
  simp only [evE] at q
  refine q.seq (kS_anti _ _) fun x S1 W1 H1 xv e1 n1 k1 q1 => ⟨W1, ρ, S1, sr.nxt n1, q1.seq (kS_anti _ _) fun y S2 W2 H2 yv e2 n2 k2 q2 => ?_⟩
  obtain ⟨z, ez, q3⟩ := q2.of
  exact ok_ix n2.w n2.s (KB.up n2.le n2.kp n1.w k1) k2 ez q3.doneS
abbrev JO (X : Cx) (I : XI) (E : L2.St → XK) (O : List Nat) (m : Env → Store → Res (Option Int)) (e : Option Expr) : Prop := PO X e (rd I X.K E O kO m)
theorem jo_none : JO X I E O (fun ρ S => evO sg cf ρ [] S) none := by
  refine ⟨fun pins s σ H Q J ⟨W, ρ, S, sr, q⟩ => po_none.run pins s σ H Q J ?_⟩
  simp only [evO] at q
  exact q.here sr.w sr.s rfl
theorem jo_some {a : IE} {r : List IE} {ea : Expr} (ha : JE X I E O (kB I X.K) (fun ρ S => evE sg cf ρ a S) ea) : JO X I E O (fun ρ S => evO sg cf ρ (a :: r) S) (some ea) := by
  refine ⟨fun pins s σ H Q J ⟨W, ρ, S, sr, q⟩ => (po_some ha).run pins s σ H Q J ⟨W, ρ, S, sr, ?_⟩⟩
  simp only [evO] at q
  refine q.seq kO_anti fun x S1 W1 H1 xv e1 n1 k1 q1 => ?_
  cases x <;> try (exact q1.elim)
  rename_i i
  cases k1
  exact ⟨i, rfl, q1.here n1.w n1.s rfl⟩
theorem sl_all : SlR X (rSlAll X.K) := sl_list.or (sl_tupA.or sl_str)
theorem j_sl {a : IE} {lo hi : List IE} {ea : Expr} {elo ehi : Option Expr} {p2 pos : Pos} (ha : JE X I E O (kB I X.K) (fun ρ S => evE sg cf ρ a S) ea) (hl : JO X I E O (fun ρ S => evO sg cf ρ lo S) elo) (hh : JO X I E O (fun ρ S => evO sg cf ρ hi S) ehi) :
    JE X I E O (kF I X.K) (fun ρ S => evE sg cf ρ (.sl a lo hi) S) (.Subscript ea (.Slice elo ehi none p2) pos) := by
  refine PE.imp (pe_slice sl_all ha hl hh) fun σ H Q ⟨W, ρ, S, sr, q⟩ => ⟨W, ρ, S, sr, ?_⟩
  simp only [evE] at q
  refine q.seq (kF_anti _ _) fun x S1 W1 H1 xv e1 n1 k1 q1 => ⟨W1, ρ, S1, sr.nxt n1, q1.seq (kF_anti _ _) fun l S2 W2 H2 l' e2 n2 k2 q2 => ⟨W2, ρ, S2, (sr.nxt n1).nxt n2, q2.seq (kF_anti _ _) fun h S3 W3 H3 h' e3 n3 k3 q3 => ?_⟩⟩
  obtain ⟨z, ez, q4⟩ := q3.of
  have k2 : l = l' := k2
  have k3 : h = h' := k3
  subst k2
  subst k3
  have n := n2.trans n3
  exact ok_sl n3.w n3.s (KB.up n.le n.kp n1.w k1) ez q4.done
/-- a built-in by its name -/
theorem j_bi {b : Bi} {t : Bool} {n : String} {es : List IE} {ea : Expr} {er : List Expr} {p pos : Pos} (hc : X.calm = true) (hgu : Quiet X.A) (hun : X.A.units + 65 < cLine) (e : biN b = some (t, n)) (hg : Gl X (n : Str)) (hm : X.mg (n : Str) = none)
    (hv : bootBuiltins (n : Str) = some (if t then .type n else .builtin n)) (h : JA X I E O (kBs I X.K) (fun ρ S => evEs sg cf ρ es S) (ea :: er)) (hn : (n : Str) ≠ "__name__") (hd : ((n : Str) == ("__debug__" : Str)) = false)
    (he : starEach (ea :: er) X.env = (false, eval ea X.env) :: starEach er X.env) (hpl : (backTo pos (starEach er X.env)).any (·.1) = false) :
    JE X I E O (kF I X.K) (fun ρ S => evE sg cf ρ (.bi b es) S) (.Call (.Name (n : Str) p) (ea :: er) [] pos) := by
  obtain ⟨r, h1, h2⟩ := bi_ok X hc hgu hun b t n e
  have go : ∀ σ H Q, rd I X.K E O (kF I X.K) (fun ρ S => evE sg cf ρ (.bi b es) S) σ H Q → tCB r (rd I X.K E O (kBs I X.K) (fun ρ S => evEs sg cf ρ es S)) σ H Q := fun σ H Q ⟨W, ρ, S, sr, q⟩ => by
    refine ⟨W, ρ, S, sr, ?_⟩
    simp only [evE] at q
    refine q.seq (kF_anti _ _) fun vs S1 W1 H1 xs e1 n1 k1 q1 => ?_
    obtain ⟨z, ez, q2⟩ := q1.of
    exact h2 I W1 H1 S1 vs xs z Q n1.w n1.s k1 ez q2.done
  cases t with
  | true => exact PE.imp (pe_callTy h1 hg hm hv h hn hd he hpl) go
  | false => exact PE.imp (pe_callB h1 hg hm hv h hn hd he hpl) go
end
end Pi

end
section
set_option linter.all false
set_option maxRecDepth 100000
/-! PiG: targets, what is walked, comprehensions. -/
namespace Pi
open PySem PySem.Spec PyProof.Rows L2

section
variable {I : XI} {K : PySem.W.Frag} {W : Wd} {H : Hp} {O : List Nat} {ρ : Env} {σ : L2.St}
/-- O without some -/
def less (O vs : List Nat) : List Nat := O.filter fun i => !vs.contains i
theorem mem_less {O vs : List Nat} {i : Nat} : i ∈ less O vs ↔ i ∈ O ∧ i ∉ vs := by
  unfold less
  simp [List.mem_filter]
theorem EnvRep.set (h : EnvRep I K W H O ρ σ) {i : Nat} {p : Val} {v : V} (r : Rp I K W H p v) : EnvRep I K W H (less O [i]) (ρ.set i (some p)) (σ.set i (some v)) := by
  refine ⟨by rw [List.length_set, List.length_set]; exact h.len, fun j q e n => ?_, fun j q e n => ?_, fun j k a hj hk e1 e2 e3 e4 => ?_⟩
  · by_cases hj : i = j
    · subst hj
      have hl : i < ρ.length := by
        have := (List.getElem?_eq_some_iff.mp e).1
        rw [List.length_set] at this
        exact this
      rw [List.getElem?_set_self hl] at e
      cases e
      exact ⟨v, by rw [List.getElem?_set_self (by rw [← h.len]; exact hl)], r⟩
    · rw [List.getElem?_set_ne hj] at e
      rw [List.getElem?_set_ne hj]
      exact h.sh j q e fun z => n (mem_less.mpr ⟨z, by simpa using Ne.symm hj⟩)
  · obtain ⟨h1, h2⟩ := mem_less.mp n
    have hj : i ≠ j := fun z => h2 (by simp [z])
    rw [List.getElem?_set_ne hj] at e ⊢
    exact h.ow j q e h1
  · obtain ⟨h1, h2⟩ := mem_less.mp hj
    obtain ⟨h3, h4⟩ := mem_less.mp hk
    have ij : i ≠ j := fun z => h2 (by simp [z])
    have ik : i ≠ k := fun z => h4 (by simp [z])
    rw [List.getElem?_set_ne ij] at e1 e3
    rw [List.getElem?_set_ne ik] at e2 e4
    exact h.ap j k a h1 h3 e1 e2 e3 e4
theorem EnvRep.clr (h : EnvRep I K W H O ρ σ) (i : Nat) : EnvRep I K W H O (ρ.set i none) (σ.set i none) := by
  have old : ∀ {j : Nat} {q : Val}, (ρ.set i none)[j]? = some (some q) → ρ[j]? = some (some q) ∧ i ≠ j := fun {j q} e => by
    by_cases hj : i = j
    · subst hj
      by_cases hl : i < ρ.length
      · rw [List.getElem?_set_self hl] at e
        cases e
      · rw [List.getElem?_eq_none (by rw [List.length_set]; omega)] at e
        cases e
    · rw [List.getElem?_set_ne hj] at e
      exact ⟨e, hj⟩
  refine ⟨by rw [List.length_set, List.length_set]; exact h.len, fun j q e n => ?_, fun j q e n => ?_, fun j k a hj hk e1 e2 e3 e4 => ?_⟩
  · obtain ⟨e, hj⟩ := old e
    rw [List.getElem?_set_ne hj]
    exact h.sh j q e n
  · obtain ⟨e, hj⟩ := old e
    rw [List.getElem?_set_ne hj]
    exact h.ow j q e n
  · obtain ⟨q, e3⟩ := e3
    obtain ⟨q', e4⟩ := e4
    obtain ⟨e3, ij⟩ := old e3
    obtain ⟨e4, ik⟩ := old e4
    rw [List.getElem?_set_ne ij] at e1
    rw [List.getElem?_set_ne ik] at e2
    exact h.ap j k a hj hk e1 e2 ⟨q, e3⟩ ⟨q', e4⟩
theorem EnvRep.wipe (h : EnvRep I K W H O ρ σ) : ∀ vs : List Nat, EnvRep I K W H O (wipeE ρ vs) (L2.wipe σ vs)
  | [] => h
  | i :: vs => (h.wipe vs).clr i
theorem EnvRep.mono {O' : List Nat} (h : EnvRep I K W H O ρ σ) (s : ∀ i p, ρ[i]? = some (some p) → i ∈ O → i ∈ O') (s' : ∀ i ∈ O', i ∈ O) : EnvRep I K W H O' ρ σ :=
  ⟨h.len, fun i p e n => h.sh i p e fun z => n (s i p e z), fun i p e n => h.ow i p e (s' i n), fun i j a hi hj => h.ap i j a (s' i hi) (s' j hj)⟩
theorem Sr.of {S : Store} {ρ' : Env} {σ' : L2.St} {O' : List Nat} (h : Sr I K W H O ρ σ S) (e : EnvRep I K W H O' ρ' σ') : Sr I K W H O' ρ' σ' S := ⟨h.w, h.s, e⟩
end

/-! ### targets -/
/-- alike but for some -/
structure Alike (vs : List Nat) (σ σ' : L2.St) : Prop where
  len : σ'.length = σ.length
  same : ∀ j : Nat, j ∉ vs → σ'[j]? = σ[j]?
theorem Alike.refl {vs : List Nat} {σ : L2.St} : Alike vs σ σ := ⟨rfl, fun _ _ => rfl⟩
theorem Alike.trans {a b : List Nat} {σ σ' σ'' : L2.St} (x : Alike a σ σ') (y : Alike b σ' σ'') : Alike (a ++ b) σ σ'' :=
  ⟨y.len.trans x.len, fun j h => (y.same j fun z => h (List.mem_append_right _ z)).trans (x.same j fun z => h (List.mem_append_left _ z))⟩
theorem wipe_get {σ : L2.St} (j : Nat) : ∀ vs : List Nat, (L2.wipe σ vs)[j]? = if j ∈ vs ∧ j < σ.length then some none else σ[j]?
  | [] => by simp [L2.wipe]
  | v :: vs => by
    unfold L2.wipe
    by_cases hv : v = j
    · subst hv
      by_cases hl : v < σ.length
      · rw [List.getElem?_set_self (by rw [L2.wipe_length]; exact hl), if_pos ⟨by simp, hl⟩]
      · rw [if_neg (fun z => hl z.2), List.getElem?_eq_none (by rw [List.length_set, L2.wipe_length]; omega), List.getElem?_eq_none (by omega)]
    · rw [List.getElem?_set_ne hv, wipe_get j vs]
      by_cases hm : j ∈ vs ∧ j < σ.length
      · rw [if_pos hm, if_pos ⟨List.mem_cons_of_mem _ hm.1, hm.2⟩]
      · rw [if_neg hm, if_neg (fun z => hm ⟨(List.mem_cons.mp z.1).resolve_left (Ne.symm hv), z.2⟩)]
theorem Alike.wipe {vs : List Nat} {σ σ' : L2.St} (h : Alike vs σ σ') : L2.wipe σ' vs = L2.wipe σ vs := by
  apply List.ext_getElem?
  intro j
  rw [wipe_get, wipe_get, h.len]
  by_cases hm : j ∈ vs
  · by_cases hl : j < σ.length
    · rw [if_pos ⟨hm, hl⟩, if_pos ⟨hm, hl⟩]
    · rw [if_neg (fun z => hl z.2), if_neg (fun z => hl z.2), List.getElem?_eq_none (by rw [h.len]; omega), List.getElem?_eq_none (by omega)]
  · rw [if_neg (fun z => hm z.1), if_neg (fun z => hm z.1)]
    exact h.same j hm
section
variable (I : XI) (K : PySem.W.Frag) (O : List Nat)
def gP (p : Pat) : TG := fun v σ H Q => ∃ W ρ S pv ρ', Sr I K W H O ρ σ S ∧ Rp I K W H pv v ∧ bindP p pv ρ = some ρ' ∧
  ∀ W' H' σ', Nxt I K W H W' H' S → Sr I K W' H' (less O p.vars) ρ' σ' S → Alike p.vars σ σ' → Q σ' H'
def gPs (ps : List Pat) : TGs := fun vs σ H Q => ∃ W ρ S pvs ρ', Sr I K W H O ρ σ S ∧ Rps I K W H pvs vs ∧ bindPs ps pvs ρ = some ρ' ∧
  ∀ W' H' σ', Nxt I K W H W' H' S → Sr I K W' H' (less O (Pat.varsL ps)) ρ' σ' S → Alike (Pat.varsL ps) σ σ' → Q σ' H'
end
theorem PG.imp {X : Cx} {e : Expr} {t t' : TG} (h : PG X e t) (f : ∀ v σ H Q, t' v σ H Q → t v σ H Q) : PG X e t' := ⟨fun pins s σ H v u Q I r q => h.run pins s σ H v u Q I r (f v σ H Q q)⟩
theorem PGs.imp {X : Cx} {e : List Expr} {t t' : TGs} (h : PGs X e t) (f : ∀ v σ H Q, t' v σ H Q → t v σ H Q) : PGs X e t' := ⟨fun pins s σ H v u Q I r q => h.run pins s σ H v u Q I r (f v σ H Q q)⟩
theorem less_less {O a b : List Nat} : less (less O a) b = less O (a ++ b) := by
  unfold less
  rw [List.filter_filter]
  congr 1
  funext i
  cases h : a.contains i <;> cases h' : b.contains i <;> simp_all
section
variable {X : Cx} {I : XI} {O : List Nat}
theorem g_v {i : Nat} {x : Str} {pos : Pos} (hN : X.N.Nodup) (hi : X.N[i]? = some x) (hx : Loc X.env.scope x) (hf : X.fn x = true ∨ X.env.scope.names.lookup x = some .local) : PG X (.Name x pos) (gP I X.K O (.v i)) := by
  refine PG.imp (pg_name hN hi hx hf) fun v σ H Q ⟨W, ρ, S, pv, ρ', sr, r, e, q⟩ => ?_
  cases e
  refine q W H _ ⟨.refl, .refl, sr.w, sr.s⟩ ⟨sr.w, sr.s, sr.e.set r⟩ ⟨by rw [List.length_set], fun j hj => ?_⟩
  rw [List.getElem?_set_ne (by intro z; exact hj (by simp [Pat.vars, z]))]
theorem less_nil {O : List Nat} : less O [] = O := by
  unfold less
  simp
theorem gs_nil : PGs X [] (gPs I X.K O []) := by
  refine PGs.imp pgs_nil fun v σ H Q ⟨W, ρ, S, pvs, ρ', sr, r, e, q⟩ => ?_
  cases pvs with
  | cons p ps => cases e
  | nil =>
    cases e
    have ev : v = [] := r
    subst ev
    exact ⟨rfl, q W H σ ⟨.refl, .refl, sr.w, sr.s⟩ (by rw [show Pat.varsL [] = [] from rfl, less_nil]; exact sr) .refl⟩
theorem gs_cons {p : Pat} {ps : List Pat} {e : Expr} {es : List Expr} (h1 : PG X e (gP I X.K O p)) (h2 : PGs X es (gPs I X.K (less O p.vars) ps))
    (hs : (assignEach (e :: es) X.env).map (·.2) = assign e X.env :: (assignEach es X.env).map (·.2)) : PGs X (e :: es) (gPs I X.K O (p :: ps)) := by
  refine PGs.imp (pgs_cons h1 h2 hs) fun v σ H Q ⟨W, ρ, S, pvs, ρ', sr, r, e, q⟩ => ?_
  cases pvs with
  | nil => cases e
  | cons pv pvs =>
    obtain ⟨x, xs, rfl, r1, r2⟩ := r
    have e : (bindP p pv ρ).bind (fun ρ' => bindPs ps pvs ρ') = some ρ' := e
    cases e1 : bindP p pv ρ with
    | none => rw [e1] at e; cases e
    | some ρ1 =>
      rw [e1] at e
      refine ⟨x, xs, rfl, W, ρ, S, pv, ρ1, sr, r1, e1, fun W1 H1 σ1 n1 sr1 a1 => ?_⟩
      refine ⟨W1, ρ1, S, pvs, ρ', sr1, Rps.up n1.le n1.kp sr.w r2, e, fun W2 H2 σ2 n2 sr2 a2 => ?_⟩
      rw [less_less] at sr2
      exact q W2 H2 σ2 (n1.trans n2) sr2 (a1.trans a2)
theorem g_tup {ps : List Pat} {es : List Expr} {k : Nat} {pos : Pos} (hc : X.calm = true) (h : PGs X es (gPs I X.K O ps)) (hn : (assignEach es X.env).length = ps.length) (hst : (assignEach es X.env).findIdx? (·.1) = none) :
    PG X (.Tuple es k pos) (gP I X.K O (.tup ps)) := by
  refine PG.imp (pg_tup hc h hn hst) fun v σ H Q ⟨W, ρ, S, pv, ρ', sr, r, e, q⟩ => ?_
  cases pv <;> try (cases e; done)
  rename_i l
  have e : (if l.length = ps.length then bindPs ps l ρ else none) = some ρ' := e
  by_cases hl : l.length = ps.length
  · rw [if_pos hl] at e
    obtain ⟨a, xs, rfl, r1, r2⟩ := r
    exact ⟨a, xs, rfl, r1, by rw [← RepVs.length r2]; exact hl, W, ρ, S, l, ρ', sr, r2, e, q⟩
  · rw [if_neg hl] at e
    cases e
end

/-! ### what is walked -/
/-- later, by what is shared alone -/
structure NxtR (I : XI) (K : PySem.W.Frag) (W : Wd) (H : Hp) (W' : Wd) (H' : Hp) (S' : Store) : Prop where
  r : ∀ a, W.R a → W'.R a
  m : ∀ (n : Nat) (a : Addr), W.μ[n]? = some a → W'.μ[n]? = some a
  kp : Kp W.R H H'
  w : WOk W' H'
  s : StRep I K W' H' S'
theorem Nxt.nr {I : XI} {K : PySem.W.Frag} {W : Wd} {H : Hp} {W' : Wd} {H' : Hp} {S' : Store} (n : Nxt I K W H W' H' S') (w : WOk W H) : NxtR I K W H W' H' S' := ⟨n.le.r, n.le.m, n.kp.mono w.rp, n.w, n.s⟩
theorem NxtR.rps {I : XI} {K : PySem.W.Frag} {W : Wd} {H : Hp} {W' : Wd} {H' : Hp} {S' : Store} (n : NxtR I K W H W' H' S') {p : List Val} {v : List V} (h : Rps I K W H p v) : Rps I K W' H' p v := RepVs.mono n.kp n.r n.m p v h
/-- J yields xs, whatever comes later -/
def Walk (I : XI) (K : PySem.W.Frag) (W1 : Wd) (H1 : Hp) (J : It) (xs : List Val) : Prop :=
  ∀ (i : Nat) W H S, NxtR I K W1 H1 W H S → (∀ p, xs[i]? = some p → J.go i H ∧ ∀ x H', J.yld i H x H' → ∃ W', Nxt I K W H W' H' S ∧ Rp I K W' H' p x) ∧ (xs.length ≤ i → J.stop i H)
def kI (I : XI) (K : PySem.W.Frag) : Kd (List Val) It := fun _ W' H' xs J => Walk I K W' H' J xs
theorem kI_anti {I : XI} {K : PySem.W.Frag} : Anti (kI I K) := fun _ _ _ _ _ _ _ h => h
theorem PI.imp {X : Cx} {tg iter : Expr} {t t' : TI} (h : PI X tg iter t) (f : ∀ σ H R, t' σ H R → t σ H R) : PI X tg iter t' := ⟨fun pins s σ H R I q => h.run pins s σ H R I (f σ H R q)⟩
section
variable {I : XI} {K : PySem.W.Frag} {W : Wd} {H : Hp} {S : Store}
theorem Nxt.refl (w : WOk W H) (s : StRep I K W H S) : Nxt I K W H W H S := ⟨.refl, .refl, w, s⟩
theorem Nxt.newT (w : WOk W H) (s : StRep I K W H S) {p : Addr} {xs : List V} (hp : H p = none) : Nxt I K W H W (upd H p (.tup xs)) S := ⟨.refl, Kp.new hp, wok_new hp w, st_new hp w s⟩
theorem walk_list {a : Addr} {xs : List V} {l : List Val} (w : WOk W H) (h1 : Lrd H W.R a xs) (h2 : Rps I K W H l xs) : Walk I K W H (Itl K a) l := by
  intro i W' H' S' n
  have e : H' a = some (.lst xs) := n.kp.k _ _ h1.1 h1.2
  have r := n.rps h2
  refine ⟨fun p hp => ?_, fun hl => ⟨xs, .of e, by rw [← RepVs.length h2]; exact hl⟩⟩
  obtain ⟨x, hx, rx⟩ := r.get hp
  refine ⟨⟨xs, x, .of e, hx⟩, fun y H2 ⟨eh, hy⟩ => ?_⟩
  subst eh
  have hy := hy xs (.of e)
  rw [hx] at hy
  cases hy
  exact ⟨W', .refl n.w n.s, rx⟩
theorem walk_tup {a : Addr} {xs : List V} {l : List Val} (w : WOk W H) (h1 : SqT K H a xs) (h2 : Rps I K W H l xs) : Walk I K W H (Itt K a) l := by
  intro i W' H' S' n
  have e : SqT K H' a xs := n.kp.sqT h1
  have r := n.rps h2
  refine ⟨fun p hp => ?_, fun hl => ⟨xs, e, by rw [← RepVs.length h2]; exact hl⟩⟩
  obtain ⟨x, hx, rx⟩ := r.get hp
  refine ⟨⟨xs, x, e, hx⟩, fun y H2 ⟨eh, hy⟩ => ?_⟩
  subst eh
  have hy := hy xs e
  rw [hx] at hy
  cases hy
  exact ⟨W', .refl n.w n.s, rx⟩
theorem walk_str {x : Str} (ho : PyData.strOk x = true) : Walk I K W H (Its x) (x.cps.toList.map fun c => .str ⟨#[c]⟩) := by
  intro i W' H' S' n
  refine ⟨fun p hp => ?_, fun hl => by
    rw [List.length_map, Array.length_toList] at hl
    exact hl⟩
  rw [List.getElem?_map] at hp
  cases e : x.cps.toList[i]? with
  | none => rw [e] at hp; cases hp
  | some c =>
    rw [e] at hp
    cases hp
    have hi : i < x.cps.size := by
      have := (List.getElem?_eq_some_iff.mp e).1
      rw [Array.length_toList] at this
      exact this
    refine ⟨hi, fun y H2 ⟨eh, c', hc, ey⟩ => ?_⟩
    subst eh ey
    have : c' = c := by
      rw [Array.getElem?_toList] at e
      rw [e] at hc
      exact (Option.some.inj hc).symm
    subst this
    refine ⟨W', .refl n.w n.s, rfl, by show 1 ≤ lim; decide, ?_⟩
    have ho : x.cps.all (· < 0x110000) = true := ho
    show (#[c'] : Array Nat).all (· < 0x110000) = true
    rw [Array.all_eq_true'] at ho
    have := ho c' (by rw [← Array.mem_toList_iff]; exact List.mem_of_getElem? e)
    simpa using this
theorem rangeL_get : ∀ {n : Nat} {a : Int} {i : Nat}, (rangeL a n)[i]? = if i < n then some (.int (a + i)) else none
  | 0, a, i => by simp [rangeL]
  | n + 1, a, 0 => by simp [rangeL]
  | n + 1, a, i + 1 => by
    simp only [rangeL, List.getElem?_cons_succ]
    rw [rangeL_get]
    by_cases h : i < n
    · rw [if_pos h, if_pos (by omega)]
      congr 2
      omega
    · rw [if_neg h, if_neg (by omega)]
theorem rangeL_length : ∀ (n : Nat) (a : Int), (rangeL a n).length = n
  | 0, _ => rfl
  | n + 1, a => by rw [rangeL, List.length_cons, rangeL_length]
theorem walk_range {a : Int} {n : Nat} : Walk I K W H (Itr a n) (rangeL a n) := by
  intro i W' H' S' nx
  refine ⟨fun p hp => ?_, fun hl => by rw [rangeL_length] at hl; exact hl⟩
  rw [rangeL_get] at hp
  by_cases h : i < n
  · rw [if_pos h] at hp
    cases hp
    refine ⟨h, fun y H2 ⟨eh, ey⟩ => ?_⟩
    subst eh ey
    exact ⟨W', .refl nx.w nx.s, rfl⟩
  · rw [if_neg h] at hp
    cases hp
theorem zipL_get : ∀ {l m : List Val} {i : Nat} {p : Val}, (zipL l m)[i]? = some p → ∃ x y, l[i]? = some x ∧ m[i]? = some y ∧ p = .tup [x, y]
  | [], _, _, _, h => by simp [zipL] at h
  | _ :: _, [], _, _, h => by simp [zipL] at h
  | a :: l, b :: m, 0, p, h => by
    simp [zipL] at h
    exact ⟨a, b, rfl, rfl, h.symm⟩
  | a :: l, b :: m, i + 1, p, h => by
    have h : (zipL l m)[i]? = some p := by simpa [zipL] using h
    obtain ⟨x, y, h1, h2, h3⟩ := zipL_get h
    exact ⟨x, y, by simpa using h1, by simpa using h2, h3⟩
theorem zipL_len : ∀ {l m : List Val}, (zipL l m).length = min l.length m.length
  | [], m => by simp [zipL]
  | a :: l, [] => by simp [zipL]
  | a :: l, b :: m => by
    rw [zipL, List.length_cons, zipL_len, List.length_cons, List.length_cons]
    omega
theorem walk_zip {a b : Addr} {xs ys : List V} {l m : List Val} (w : WOk W H) (h1 : Lrd H W.R a xs) (h2 : Rps I K W H l xs) (h3 : Lrd H W.R b ys) (h4 : Rps I K W H m ys) : Walk I K W H (Itz K a b) (zipL l m) := by
  intro i W' H' S' n
  have e : H' a = some (.lst xs) := n.kp.k _ _ h1.1 h1.2
  have e' : H' b = some (.lst ys) := n.kp.k _ _ h3.1 h3.2
  have r := n.rps h2
  have r' := n.rps h4
  refine ⟨fun p hp => ?_, fun hl => ⟨xs, ys, .of e, .of e', ?_⟩⟩
  · obtain ⟨x, y, hx, hy, rfl⟩ := zipL_get hp
    obtain ⟨xv, gx, rx⟩ := r.get hx
    obtain ⟨yv, gy, ry⟩ := r'.get hy
    refine ⟨⟨xs, ys, xv, yv, .of e, .of e', gx, gy⟩, fun v H2 ⟨T, x', y', ev, nT, eh, q1, q2⟩ => ?_⟩
    subst ev eh
    have q1 := q1 xs (.of e)
    have q2 := q2 ys (.of e')
    rw [gx] at q1
    rw [gy] at q2
    cases q1
    cases q2
    have nn := Nxt.newT (I := I) (K := K) n.w n.s (xs := [xv, yv]) nT
    exact ⟨W', nn, T, [xv, yv], rfl, .of upd_same, xv, [yv], rfl, Rp.up nn.le nn.kp n.w rx, yv, [], rfl, Rp.up nn.le nn.kp n.w ry, rfl⟩
  · rw [zipL_len, RepVs.length h2, RepVs.length h4] at hl
    omega
theorem walk_zipT {a b : Addr} {xs ys : List V} {l m : List Val} (w : WOk W H) (h1 : SqT K H a xs) (h2 : Rps I K W H l xs) (h3 : SqT K H b ys) (h4 : Rps I K W H m ys) : Walk I K W H (RZ.ItzT K a b) (zipL l m) := by
  intro i W' H' S' n
  have e : SqT K H' a xs := n.kp.sqT h1
  have e' : SqT K H' b ys := n.kp.sqT h3
  have r := n.rps h2
  have r' := n.rps h4
  refine ⟨fun p hp => ?_, fun hl => ⟨xs, ys, e, e', ?_⟩⟩
  · obtain ⟨x, y, hx, hy, rfl⟩ := zipL_get hp
    obtain ⟨xv, gx, rx⟩ := r.get hx
    obtain ⟨yv, gy, ry⟩ := r'.get hy
    refine ⟨⟨xs, ys, xv, yv, e, e', gx, gy⟩, fun v H2 ⟨T, x', y', ev, nT, eh, q1, q2⟩ => ?_⟩
    subst ev eh
    have q1 := q1 xs e
    have q2 := q2 ys e'
    rw [gx] at q1
    rw [gy] at q2
    cases q1
    cases q2
    have nn := Nxt.newT (I := I) (K := K) n.w n.s (xs := [xv, yv]) nT
    exact ⟨W', nn, T, [xv, yv], rfl, .of upd_same, xv, [yv], rfl, Rp.up nn.le nn.kp n.w rx, yv, [], rfl, Rp.up nn.le nn.kp n.w ry, rfl⟩
  · rw [zipL_len, RepVs.length h2, RepVs.length h4] at hl
    omega
theorem enumL_get : ∀ {l : List Val} {k : Int} {i : Nat} {p : Val}, (enumL k l)[i]? = some p → ∃ x, l[i]? = some x ∧ p = .tup [.int (k + i), x]
  | [], _, _, _, h => by simp [enumL] at h
  | a :: l, k, 0, p, h => by
    simp [enumL] at h
    exact ⟨a, rfl, by rw [← h]; simp⟩
  | a :: l, k, i + 1, p, h => by
    have h : (enumL (k + 1) l)[i]? = some p := by simpa [enumL] using h
    obtain ⟨x, h1, h3⟩ := enumL_get h
    refine ⟨x, by simpa using h1, ?_⟩
    rw [h3]
    congr 3
    omega
theorem enumL_len : ∀ {l : List Val} {k : Int}, (enumL k l).length = l.length
  | [], k => rfl
  | a :: l, k => by rw [enumL, List.length_cons, enumL_len, List.length_cons]
theorem walk_enum {a : Addr} {xs : List V} {l : List Val} (w : WOk W H) (h1 : Lrd H W.R a xs) (h2 : Rps I K W H l xs) : Walk I K W H (Ite K a) (enumL 0 l) := by
  intro i W' H' S' n
  have e : H' a = some (.lst xs) := n.kp.k _ _ h1.1 h1.2
  have r := n.rps h2
  refine ⟨fun p hp => ?_, fun hl => ⟨xs, .of e, by rw [enumL_len, RepVs.length h2] at hl; exact hl⟩⟩
  obtain ⟨x, hx, rfl⟩ := enumL_get hp
  obtain ⟨xv, gx, rx⟩ := r.get hx
  refine ⟨⟨xs, xv, .of e, gx⟩, fun v H2 ⟨T, x', ev, nT, eh, q1⟩ => ?_⟩
  subst ev eh
  have q1 := q1 xs (.of e)
  rw [gx] at q1
  cases q1
  have nn := Nxt.newT (I := I) (K := K) n.w n.s (xs := [.int (i : Nat), xv]) nT
  refine ⟨W', nn, T, _, rfl, .of upd_same, .int (i : Nat), [xv], rfl, ?_, xv, [], rfl, Rp.up nn.le nn.kp n.w rx, rfl⟩
  show V.int _ = V.int _
  congr 1
  omega
end
end Pi

end
section
set_option linter.all false
set_option maxRecDepth 100000
/-! PiH: loops' iterables, comprehensions, calls. -/
namespace Pi
open PySem PySem.Spec PyProof.Rows L2

def evIt (sg : Sig) (cf : String → List Val → Store → Res Val) (k : Nat) (its : List IE) (ρ : Env) (S : Store) : Res (List Val) := (evEs sg cf ρ its S).bind fun vs S1 => .of (itV S1 k vs) S1
section
variable {X : Cx} {I : XI} {E : L2.St → XK} {sg : Sig} {cf : String → List Val → Store → Res Val} {O : List Nat} {tg : Expr}
abbrev JI (X : Cx) (I : XI) (E : L2.St → XK) (O : List Nat) (m : Env → Store → Res (List Val)) (tg it : Expr) : Prop := PI X tg it (rd I X.K E O (kI I X.K) m)
theorem rps_one {I : XI} {K : PySem.W.Frag} {W : Wd} {H : Hp} {p : Val} {vs : List V} (h : Rps I K W H [p] vs) : ∃ v, vs = [v] ∧ Rp I K W H p v := by
  obtain ⟨v, ws, rfl, h1, h2⟩ := h
  have e : ws = [] := h2
  subst e
  exact ⟨v, rfl, h1⟩
theorem rps_two {I : XI} {K : PySem.W.Frag} {W : Wd} {H : Hp} {p q : Val} {vs : List V} (h : Rps I K W H [p, q] vs) : ∃ v u, vs = [v, u] ∧ Rp I K W H p v ∧ Rp I K W H q u := by
  obtain ⟨v, ws, rfl, h1, h2⟩ := h
  obtain ⟨u, rfl, h3⟩ := rps_one h2
  exact ⟨v, u, rfl, h1, h3⟩
/-- a list, a tuple, a text -/
def iSeq (K : PySem.W.Frag) (tl : TE) : TI := fun σ H R => tl σ H fun x H1 => (∃ a, x = .ref a ∧ (∃ xs, SqL K H1 a xs) ∧ R (Itl K a) H1) ∨ (∃ a, x = .ref a ∧ (∃ xs, SqT K H1 a xs) ∧ R (Itt K a) H1) ∨ ∃ y, x = .str y ∧ R (Its y) H1
theorem pi_seq {l : Expr} {tl : TE} (hl : PE X l tl) : PI X tg l (iSeq X.K tl) := by
  refine ⟨fun pins s σ H R J h => ?_⟩
  refine thn (hl.run pins s σ H _ J h) fun v s1 ⟨x, H1, J1, r1, q1⟩ => ?_
  have fresh : ∀ {o : Obj}, ∀ b ∈ [s1.heap.objs.size], FpOk X pins H1 b := fun {o} b hb => by
    have e : b = s1.heap.objs.size := by simpa using hb
    subst e
    exact J1.fpOk (Nat.le_refl _) (J1.hok.fresh (Nat.le_refl _))
  rcases q1 with ⟨a, e, ⟨xs, hq⟩, q⟩ | ⟨a, e, ⟨xs, hq⟩, q⟩ | ⟨y, e, q⟩
  · subst e
    cases r1
    obtain ⟨its, rv, p, hz⟩ := J1.list hq
    refine wpAny_pyIter_list p.isList ?_
    exact ⟨s1.heap.objs.size, [s1.heap.objs.size], _, _, H1, rfl, J1.kept (t' := s1.toks) fun b o e => Heap.get?_push_of_some _ e, turn_list a _, ⟨_, Heap.get?_push_size _ rfl, rfl, rfl⟩, fresh (o := default), q⟩
  · subst e
    cases r1
    obtain ⟨its, rv, p, hz⟩ := J1.tuple hq
    refine wpAny_pyIter_tuple (show s1.heap.IsTuple a its.toArray from p) ?_
    exact ⟨s1.heap.objs.size, [s1.heap.objs.size], _, _, H1, rfl, J1.kept (t' := s1.toks) fun b o e => Heap.get?_push_of_some _ e, turn_tuple a _, ⟨_, Heap.get?_push_size _ rfl, rfl, rfl⟩, fresh (o := default), q⟩
  · subst e
    obtain ⟨t, rfl⟩ := r1
    cases ha : y.cps.all (· < 128)
    · exact wpAny_pyIter_wide ha (pi_one (tk := s1.toks) J1 _ (turn_str _ y t "str_iterator" (.inr rfl)) ⟨_, Heap.get?_push_size _ rfl, rfl, rfl⟩ q)
    · exact wpAny_pyIter_ascii ha (pi_one (tk := s1.toks) J1 _ (turn_str _ y t "str_ascii_iterator" (.inl rfl)) ⟨_, Heap.get?_push_size _ rfl, rfl, rfl⟩ q)
theorem evEs_one {ρ : Env} {a : IE} {S : Store} : evEs sg cf ρ [a] S = (evE sg cf ρ a S).bind fun v S1 => .ok [v] S1 := by
  simp only [evEs]
  rfl
theorem ji_seq {a : IE} {ea : Expr} (ha : JE X I E O (kS I X.K) (fun ρ S => evE sg cf ρ a S) ea) : JI X I E O (evIt sg cf 0 [a]) tg ea := by
  refine PI.imp (pi_seq ha) fun σ H R ⟨W, ρ, S, sr, q⟩ => ⟨W, ρ, S, sr, ?_⟩
  have e : evIt sg cf 0 [a] ρ S = (evE sg cf ρ a S).bind fun v S1 => .of (itV S1 0 [v]) S1 := by
    unfold evIt
    rw [evEs_one]
    cases evE sg cf ρ a S <;> rfl
  rw [e] at q
  refine q.seq kI_anti fun v S1 W1 H1 x e1 n1 k1 q1 => ?_
  obtain ⟨xs, ex, q2⟩ := q1.of
  cases v <;> try (cases ex; done)
  · cases ex
    obtain ⟨rfl, hl, ho⟩ := k1
    exact .inr (.inr ⟨_, rfl, q2.here n1.w n1.s (walk_str ho)⟩)
  · cases ex
    obtain ⟨b, ys, rfl, h1, h2⟩ := k1
    exact .inr (.inl ⟨b, rfl, ⟨ys, h1⟩, q2.here n1.w n1.s (walk_tup n1.w h1 h2)⟩)
  · cases ex
    obtain ⟨b, ys, rfl, h1, h2⟩ := k1
    exact .inl ⟨b, rfl, ⟨ys, h1.sq⟩, q2.here n1.w n1.s (walk_list n1.w h1 h2)⟩
theorem ji_range1 {es : List IE} {ea : Expr} {p pos : Pos} (hg : Gl X "range") (hm : X.mg "range" = none) (h : JA X I E O (kSs I X.K) (fun ρ S => evEs sg cf ρ es S) [ea]) (hs : starEach [ea] X.env = [(false, eval ea X.env)]) :
    JI X I E O (evIt sg cf 1 es) tg (.Call (.Name "range" p) [ea] [] pos) := by
  refine PI.imp (pi_range1 hg hm h hs) fun σ H R ⟨W, ρ, S, sr, q⟩ => ⟨W, ρ, S, sr, ?_⟩
  unfold evIt at q
  refine q.seq kI_anti fun vs S1 W1 H1 x e1 n1 k1 q1 => ?_
  obtain ⟨xs, ex, q2⟩ := q1.of
  match vs, ex with
  | [.int n], ex =>
    have ex : (if -(2 ^ 62) ≤ n ∧ n ≤ lim then some (rangeL 0 n.toNat) else none) = some xs := ex
    by_cases c : -(2 ^ 62) ≤ n ∧ n ≤ (lim : Int)
    · rw [if_pos c] at ex
      cases ex
      obtain ⟨v, rfl, hv⟩ := rps_one k1
      cases hv
      exact ⟨n, rfl, c.1, by have := c.2; have : (lim : Int) < 2 ^ 62 := by decide
                             omega, q2.here n1.w n1.s walk_range⟩
    · rw [if_neg c] at ex
      cases ex
theorem ji_range2 {es : List IE} {ea eb : Expr} {p pos : Pos} (hg : Gl X "range") (hm : X.mg "range" = none) (h : JA X I E O (kSs I X.K) (fun ρ S => evEs sg cf ρ es S) [ea, eb])
    (hs : starEach [ea, eb] X.env = [(false, eval ea X.env), (false, eval eb X.env)]) (hs2 : starEach [eb] X.env = [(false, eval eb X.env)]) :
    JI X I E O (evIt sg cf 2 es) tg (.Call (.Name "range" p) [ea, eb] [] pos) := by
  refine PI.imp (pi_range2 hg hm h hs hs2) fun σ H R ⟨W, ρ, S, sr, q⟩ => ⟨W, ρ, S, sr, ?_⟩
  unfold evIt at q
  refine q.seq kI_anti fun vs S1 W1 H1 x e1 n1 k1 q1 => ?_
  obtain ⟨xs, ex, q2⟩ := q1.of
  match vs, ex with
  | [.int a, .int b], ex =>
    have ex : (if -(2 ^ 62) ≤ a ∧ a < 2 ^ 62 ∧ -(2 ^ 62) ≤ b ∧ b < 2 ^ 62 ∧ b - a ≤ lim then some (rangeL a (b - a).toNat) else none) = some xs := ex
    by_cases c : -(2 ^ 62) ≤ a ∧ a < 2 ^ 62 ∧ -(2 ^ 62) ≤ b ∧ b < 2 ^ 62 ∧ b - a ≤ (lim : Int)
    · rw [if_pos c] at ex
      cases ex
      obtain ⟨v, u, rfl, hv, hu⟩ := rps_two k1
      cases hv
      cases hu
      exact ⟨a, b, rfl, ⟨c.1, c.2.1, c.2.2.1, c.2.2.2.1⟩, q2.here n1.w n1.s walk_range⟩
    · rw [if_neg c] at ex
      cases ex
theorem ji_zip {es : List IE} {ea eb : Expr} {p pos tpos : Pos} {elts : List Expr} {kk : Nat} (hg : Gl X "zip") (hm : X.mg "zip" = none) (h : JA X I E O (kSs I X.K) (fun ρ S => evEs sg cf ρ es S) [ea, eb])
    (hs : starEach [ea, eb] X.env = (false, eval ea X.env) :: starEach [eb] X.env) (hpl : (backTo pos (starEach [eb] X.env)).any (·.1) = false) :
    JI X I E O (evIt sg cf 4 es) (.Tuple elts kk tpos) (.Call (.Name "zip" p) [ea, eb] [] pos) := by
  refine PI.imp (RZ.pi_zipA hg hm h hs hpl) fun σ H R ⟨W, ρ, S, sr, q⟩ => ⟨W, ρ, S, sr, ?_⟩
  unfold evIt at q
  refine q.seq kI_anti fun vs S1 W1 H1 x e1 n1 k1 q1 => ?_
  obtain ⟨xs, ex, q2⟩ := q1.of
  match vs, ex with
  | [.lst a, .lst b], ex =>
    cases ex
    obtain ⟨v, u, rfl, ⟨c, zs, rfl, h1, h2⟩, d, ws, rfl, h3, h4⟩ := rps_two k1
    exact ⟨c, d, zs, ws, rfl, .inl ⟨h1.sq, h3.sq, q2.here n1.w n1.s (walk_zip n1.w h1 h2 h3 h4)⟩⟩
  | [.tup a, .tup b], ex =>
    cases ex
    obtain ⟨v, u, rfl, ⟨c, zs, rfl, h1, h2⟩, d, ws, rfl, h3, h4⟩ := rps_two k1
    exact ⟨c, d, zs, ws, rfl, .inr ⟨h1, h3, q2.here n1.w n1.s (walk_zipT n1.w h1 h2 h3 h4)⟩⟩
theorem ji_enum {es : List IE} {ea : Expr} {p pos tpos : Pos} {elts : List Expr} {kk : Nat} (hg : Gl X "enumerate") (hm : X.mg "enumerate" = none) (h : JA X I E O (kSs I X.K) (fun ρ S => evEs sg cf ρ es S) [ea])
    (hs : starEach [ea] X.env = [(false, eval ea X.env)]) : JI X I E O (evIt sg cf 5 es) (.Tuple elts kk tpos) (.Call (.Name "enumerate" p) [ea] [] pos) := by
  refine PI.imp (pi_enum hg hm h hs) fun σ H R ⟨W, ρ, S, sr, q⟩ => ⟨W, ρ, S, sr, ?_⟩
  unfold evIt at q
  refine q.seq kI_anti fun vs S1 W1 H1 x e1 n1 k1 q1 => ?_
  obtain ⟨xs, ex, q2⟩ := q1.of
  match vs, ex with
  | [.lst a], ex =>
    cases ex
    obtain ⟨v, rfl, c, zs, rfl, h1, h2⟩ := rps_one k1
    exact ⟨c, zs, rfl, h1.sq, q2.here n1.w n1.s (walk_enum n1.w h1 h2)⟩
end

/-! ### comprehensions -/
section
variable {I : XI} {K : PySem.W.Frag} {W : Wd} {H : Hp} {S : Store}
/-- one's own list is changed -/
theorem wok_own {a : Addr} {xs ys : List V} (w : WOk W H) (h : H a = some (.lst xs)) : WOk W (upd H a (.lst ys)) := by
  have go : ∀ b, (∃ o, H b = some o) → ∃ o, upd H a (.lst ys) b = some o := fun b ⟨o, e⟩ => by
    by_cases hb : b = a
    · subst hb
      exact ⟨_, upd_same⟩
    · exact ⟨o, by rw [upd_ne hb]; exact e⟩
  exact ⟨w.rp, fun b z => go b (w.d b z), w.nd, fun b z => ⟨(w.mp b z).1, go b (w.mp b z).2⟩⟩
theorem st_own {a : Addr} {xs ys : List V} (w : WOk W H) (s : StRep I K W H S) (p : W.P a) (n : ¬ W.R a) (h : H a = some (.lst xs)) : StRep I K W (upd H a (.lst ys)) S := by
  have kp : Kp W.R H (upd H a (.lst ys)) := Kp.set h n
  refine ⟨s.len, fun m o e => ?_⟩
  obtain ⟨b, h1, h2⟩ := s.ob m o e
  have hb : b ≠ a := fun z => (w.mp b (List.mem_of_getElem? h1)).1 (by rw [z]; exact p)
  refine ⟨b, h1, ?_⟩
  have e1 : upd H a (.lst ys) b = H b := upd_ne hb
  cases o with
  | lst l =>
    obtain ⟨zs, h3, h4⟩ := h2
    exact ⟨zs, e1.trans h3, RepVs.mono kp (fun _ z => z) (fun _ _ z => z) _ _ h4⟩
  | ro l =>
    obtain ⟨zs, h3, h4⟩ := h2
    refine ⟨zs, ?_, RepVs.mono kp (fun _ z => z) (fun _ _ z => z) _ _ h4⟩
    rcases h3 with (h3 | ⟨o, h3⟩) | h3
    · exact .inl (.inl (e1.trans h3))
    · exact .inl (.inr ⟨o, e1.trans h3⟩)
    · exact .inr h3
  | ins c fs => exact h2.elim
end
theorem compGo_noexc {f : Val → Store → Res (List Val)} : ∀ {l : List Val} {S : Store} {y : Val} {S' : Store}, compGo f l S ≠ .exc y S'
  | [], S, y, S', h => by simp [compGo] at h
  | v :: r, S, y, S', h => by
    unfold compGo at h
    cases e : f v S with
    | ok ys S1 =>
      rw [e] at h
      simp only at h
      cases e2 : compGo f r S1 <;> rw [e2] at h <;> cases h
    | exc y S1 => rw [e] at h; cases h
    | bad => rw [e] at h; cases h
abbrev E0' : XK := fun _ _ _ => False
section
variable {X : Cx} {I : XI} {E : L2.St → XK} {sg : Sig} {cf : String → List Val → Store → Res Val} {O : List Nat} {tg : Expr}
theorem jts_nil : PTs X [] (rd I X.K E O kT (fun ρ S => evTs sg cf ρ [] S)) :=
  ⟨fun pins s σ H Q J ⟨W, ρ, S, sr, q⟩ => pts_nil.run pins s σ H Q J (by
    simp only [evTs] at q
    exact q.here sr.w sr.s rfl)⟩
theorem jts_one {c : IE} {ec : Expr} (h : JT X I E O (fun ρ S => evT sg cf ρ c S) ec) : PTs X [ec] (rd I X.K E O kT (fun ρ S => evTs sg cf ρ [c] S)) :=
  ⟨fun pins s σ H Q J ⟨W, ρ, S, sr, q⟩ => (pts_one h).run pins s σ H Q J ⟨W, ρ, S, sr, by
    have e : evTs sg cf ρ [c] S = evT sg cf ρ c S := by
      simp only [evTs, evT]
      cases evE sg cf ρ c S with
      | ok v S1 =>
        simp only [Res.bind_ok]
        cases truV v with
        | none => rfl
        | some b => cases b <;> rfl
      | exc y S1 => rfl
      | bad => rfl
    have q : At I X.K (E σ) kT W H (evTs sg cf ρ [c] S) Q := q
    rw [e] at q
    exact q⟩⟩
def compF (sg : Sig) (cf : String → List Val → Store → Res Val) (p : Pat) (cs : List IE) (e : IE) (ρ : Env) (v : Val) (S2 : Store) : Res (List Val) := match bindP p v (wipeE ρ p.vars) with
  | some ρ' => (evTs sg cf ρ' cs S2).bind fun c S3 => if c then (evE sg cf ρ' e S3).bind fun y S4 => .ok [y] S4 else .ok [] S3
  | none => .bad
/-- the reading of a comprehension -/
theorem comp_rd {k : Nat} {its : List IE} {p : Pat} {cs : List IE} {e : IE} {σ : L2.St} {H : Hp} {Q : VK} (h : rd I X.K E O (kF I X.K) (fun ρ S => evE sg cf ρ (.comp k its p cs e) S) σ H Q) :
    tLc (rd I X.K E O (kI I X.K) (evIt sg cf k its)) (gP I X.K O p) (rd I X.K (fun _ => E0') (less O p.vars) kT (fun ρ S => evTs sg cf ρ cs S)) (rd I X.K (fun _ => E0') (less O p.vars) (kS I X.K) (fun ρ S => evE sg cf ρ e S)) p.vars σ H Q := by
  obtain ⟨W, ρ, S, sr, q⟩ := h
  refine ⟨W, ρ, S, sr, ?_⟩
  have q : At I X.K (E σ) (kF I X.K) W H ((evIt sg cf k its ρ S).bind fun xs S1 => (compGo (compF sg cf p cs e ρ) xs S1).bind fun ys S2 => if ys.length ≤ lim then .ok (.lst ys) S2 else .bad) Q := by
    simp only [evE] at q
    exact q
  refine q.seq (kF_anti _ _) fun xs S1 W1 H1 J e1 n1 wk q1 => fun D hD => ?_
  cases e2 : compGo (compF sg cf p cs e ρ) xs S1 with
  | exc y S2 => exact absurd e2 compGo_noexc
  | bad => rw [e2] at q1; exact q1.elim
  | ok tot S2 =>
    rw [e2] at q1
    simp only [Res.bind_ok] at q1
    by_cases hl : tot.length ≤ lim
    · rw [if_pos hl] at q1
      have nD : ¬ W1.P D := n1.w.no hD
      refine ⟨fun i m H => ∃ Wc Sc acc accV zs, m = xs.length - i ∧ i ≤ xs.length ∧ compGo (compF sg cf p cs e ρ) (xs.drop i) Sc = .ok zs S2 ∧ tot = acc ++ zs ∧ Nxt I X.K W1 H1 Wc H Sc ∧ Wc.P D ∧ ¬ Wc.R D ∧ H D = some (.lst accV) ∧ Rps I X.K Wc H acc accV,
        ⟨xs.length, W1.add D, S1, [], [], tot, rfl, Nat.zero_le _, by rw [List.drop_zero]; exact e2, rfl, ⟨le_add, Kp.new hD, wok_add hD n1.w, st_add hD n1.w n1.s⟩, .inl rfl, fun z => nD (n1.w.rp D z), upd_same, rfl⟩, ?_⟩
      rintro i m H2 ⟨Wc, Sc, acc, accV, zs, rfl, hi, ec, et, nc, pD, rD, hHD, ra⟩
      by_cases hlt : i < xs.length
      · refine .inr ?_
        obtain ⟨go, yld⟩ := (wk i Wc H2 Sc (nc.nr n1.w)).1 xs[i] (by simp [hlt])
        have ed : xs.drop i = xs[i] :: xs.drop (i + 1) := List.drop_eq_getElem_cons hlt
        rw [ed] at ec
        unfold compGo at ec
        cases e3 : compF sg cf p cs e ρ xs[i] Sc with
        | exc y S3 => rw [e3] at ec; cases ec
        | bad => rw [e3] at ec; cases ec
        | ok us S3 =>
          rw [e3] at ec
          simp only at ec
          cases e4 : compGo (compF sg cf p cs e ρ) (xs.drop (i + 1)) S3 with
          | exc y S4 => rw [e4] at ec; cases ec
          | bad => rw [e4] at ec; cases ec
          | ok ws S4 =>
            rw [e4] at ec
            simp only at ec
            cases ec
            refine ⟨go, _, fun H' hN => ⟨xs.length - (i + 1), by omega, hN⟩, fun x H3 hy => ?_⟩
            obtain ⟨W3, n3, r3⟩ := yld x H3 hy
            unfold compF at e3
            cases e5 : bindP p xs[i] (wipeE ρ p.vars) with
            | none => rw [e5] at e3; cases e3
            | some ρ' =>
              rw [e5] at e3
              simp only at e3
              have sr3 : Sr I X.K W3 H3 O ρ σ Sc := (sr.nxt ((n1.trans nc).trans n3))
              refine ⟨W3, wipeE ρ p.vars, Sc, xs[i], ρ', sr3.of (sr3.e.wipe _), r3, e5, fun W4 H4 σ4 n4 sr4 a4 => ⟨?_, W4, ρ', Sc, sr4, ?_⟩⟩
              · rw [a4.wipe]
                apply List.ext_getElem?
                intro j
                rw [wipe_get, wipe_get, L2.wipe_length]
                by_cases hj : j ∈ p.vars ∧ j < σ.length
                · rw [if_pos hj, if_pos hj]
                · rw [if_neg hj, if_neg hj]
              · -- what a turn comes to
                have fin : ∀ {W5 : Wd} {H5 : Hp} {S5 : Store} (n5 : Nxt I X.K W4 H4 W5 H5 S5) (us' : List Val) (accV' : List V), us = us' → S3 = S5 → (us' = [] ∧ accV' = accV ∨ ∃ y v, us' = [y] ∧ accV' = accV ++ [v] ∧ Rp I X.K W5 H5 y v) → ∀ H6, (us' = [] ∧ H6 = H5 ∨ H6 = upd H5 D (.lst accV')) →
                    ∃ Wc Sc acc accV zs, xs.length - (i + 1) = xs.length - (i + 1) ∧ i + 1 ≤ xs.length ∧ compGo (compF sg cf p cs e ρ) (xs.drop (i + 1)) Sc = .ok zs S2 ∧ tot = acc ++ zs ∧ Nxt I X.K W1 H1 Wc H6 Sc ∧ Wc.P D ∧ ¬ Wc.R D ∧ H6 D = some (.lst accV) ∧ Rps I X.K Wc H6 acc accV := by
                  intro W5 H5 S5 n5 us' accV' eu es hu H6 h6
                  subst eu es
                  have nn := (n3.trans n4).trans n5
                  have hD5 : H5 D = some (.lst accV) := nn.kp.k D _ pD hHD
                  have pD5 : W5.P D := nn.le.p D pD
                  have rD5 : ¬ W5.R D := fun z => rD (nn.le.n D z pD)
                  have ra5 : Rps I X.K W5 H5 acc accV := Rps.up nn.le nn.kp nc.w ra
                  have n15 := nc.trans nn
                  rcases h6 with ⟨hz, h6⟩ | h6
                  · subst h6
                    rcases hu with ⟨hu, hv⟩ | ⟨y, v, hu, _⟩
                    · subst hu hv
                      exact ⟨W5, S3, acc, accV', ws, rfl, hlt, e4, by simpa using et, n15, pD5, rD5, hD5, ra5⟩
                    · rw [hu] at hz
                      cases hz
                  · subst h6
                    have kpR : Kp W5.R H5 (upd H5 D (.lst accV')) := Kp.set hD5 rD5
                    have n16 : Nxt I X.K W1 H1 W5 (upd H5 D (.lst accV')) S3 := ⟨n15.le, n15.kp.trans (Kp.set hD5 nD), wok_own n5.w hD5, st_own n5.w n5.s pD5 rD5 hD5⟩
                    rcases hu with ⟨hu, hv⟩ | ⟨y, v, hu, hv, rv⟩
                    · subst hu hv
                      exact ⟨W5, S3, acc, accV', ws, rfl, hlt, e4, by simpa using et, n16, pD5, rD5, upd_same, RepVs.mono kpR (fun _ z => z) (fun _ _ z => z) _ _ ra5⟩
                    · subst hu hv
                      refine ⟨W5, S3, acc ++ [y], accV ++ [v], ws, rfl, hlt, e4, by rw [et, List.append_assoc], n16, pD5, rD5, upd_same, ?_⟩
                      exact RepVs.append (RepVs.mono kpR (fun _ z => z) (fun _ _ z => z) _ _ ra5) ⟨v, [], rfl, RepV.mono kpR (fun _ z => z) (fun _ _ z => z) _ _ rv, rfl⟩
                show At I X.K E0' kT W4 H4 (evTs sg cf ρ' cs Sc) _
                cases e6 : evTs sg cf ρ' cs Sc with
                | exc y S5 => rw [e6] at e3; cases e3
                | bad => rw [e6] at e3; cases e3
                | ok b S5 =>
                  rw [e6] at e3
                  simp only [Res.bind_ok] at e3
                  intro W5 H5 b' n5 eb
                  have eb : b = b' := eb
                  subst eb
                  cases b with
                  | false =>
                    rw [if_neg Bool.false_ne_true] at e3 ⊢
                    cases e3
                    exact fin n5 [] accV rfl rfl (.inl ⟨rfl, rfl⟩) H5 (.inl ⟨rfl, rfl⟩)
                  | true =>
                    rw [if_pos rfl] at e3 ⊢
                    refine ⟨W5, ρ', S5, sr4.nxt n5, ?_⟩
                    show At I X.K E0' (kS I X.K) W5 H5 (evE sg cf ρ' e S5) _
                    cases e7 : evE sg cf ρ' e S5 with
                    | exc y S6 => rw [e7] at e3; cases e3
                    | bad => rw [e7] at e3; cases e3
                    | ok y S6 =>
                      rw [e7] at e3
                      simp only [Res.bind_ok] at e3
                      cases e3
                      intro W6 H6 v n6 rv
                      have nn := (n3.trans n4).trans (n5.trans n6)
                      refine ⟨accV, nn.kp.k D _ pD hHD, ?_, fin (n5.trans n6) [y] (accV ++ [v]) rfl rfl (.inr ⟨y, v, rfl, rfl, rv⟩) _ (.inr rfl)⟩
                      have : tot.length = acc.length + (1 + ws.length) := by
                        rw [et]
                        simp
                        omega
                      rw [← RepVs.length ra, sizeLine_lim]
                      omega
      · refine .inl ?_
        have ei : i = xs.length := by omega
        subst ei
        refine ⟨(wk _ Wc H2 Sc (nc.nr n1.w)).2 (Nat.le_refl _), ?_⟩
        rw [List.drop_length] at ec
        simp only [compGo] at ec
        cases ec
        rw [List.append_nil] at et
        subst et
        refine q1 Wc H2 (.ref D) nc ⟨D, rfl, ⟨pD, rD, accV, hHD, ra⟩, nD⟩
    · rw [if_neg hl] at q1
      exact q1.elim
end
end Pi

end
section
set_option linter.all false
set_option maxRecDepth 100000
/-! PiI: statements. -/
namespace Pi
open PySem PySem.Spec PyProof.Rows L2

/-- where a def's body stands, since its entry (W0, H0) -/
structure Sr0 (I : XI) (K : PySem.W.Frag) (W0 : Wd) (H0 : Hp) (W : Wd) (H : Hp) (O : List Nat) (ρ : Env) (σ : L2.St) (S : Store) : Prop where
  le : W0.le W
  kp : Kp W0.P H0 H
  sr : Sr I K W H O ρ σ S
  ow : ∀ (i : Nat) (a : Addr), i ∈ O → σ[i]? = some (some (V.ref a)) → (∃ p, ρ[i]? = some (some p)) → ¬ W0.P a
theorem NxtR.trans {I : XI} {K : PySem.W.Frag} {W W1 W2 : Wd} {H H1 H2 : Hp} {S1 S2 : Store} (a : NxtR I K W H W1 H1 S1) (b : NxtR I K W1 H1 W2 H2 S2) : NxtR I K W H W2 H2 S2 :=
  ⟨fun x h => b.r x (a.r x h), fun n x h => b.m n x (a.m n x h), a.kp.trans (b.kp.mono a.r), b.w, b.s⟩
def kFS (I : XI) (K : PySem.W.Frag) (fr : Bool) : Kd Val V := if fr then kF I K else kS I K
theorem kFS_anti {I : XI} {K : PySem.W.Frag} {fr : Bool} : Anti (kFS I K fr) := by
  cases fr
  · exact kS_anti I K
  · exact kF_anti I K
section
variable (I : XI) (K : PySem.W.Frag) (E : XK) (W0 : Wd) (H0 : Hp) (fr : Bool) (OL : List Nat)
def AtS (W : Wd) (H : Hp) (O' : Option (List Nat)) (D : Ends) (o : Out) : Prop := match o with
  | .nx ρ' S' => ∀ O2, O' = some O2 → ∀ W' H' σ', Sr0 I K W0 H0 W' H' O2 ρ' σ' S' → NxtR I K W H W' H' S' → D.nx σ' H'
  | .rt v S' => ∀ W' H' x, Nxt I K W0 H0 W' H' S' → kFS I K fr W0 W' H' v x → D.rt x H'
  | .bk ρ' S' => ∀ W' H' σ', Sr0 I K W0 H0 W' H' OL ρ' σ' S' → NxtR I K W H W' H' S' → D.bk σ' H'
  | .ct ρ' S' => ∀ W' H' σ', Sr0 I K W0 H0 W' H' OL ρ' σ' S' → NxtR I K W H W' H' S' → D.ct σ' H'
  | .ex x _ S' => ∀ W' H' cls d, Nxt I K W0 H0 W' H' S' → ExcOk I K W' H' x cls d → E cls d H'
  | .bad => False
def rdS (O : List Nat) (O' : Option (List Nat)) (m : Env → Store → Out) : TS := fun D σ H => ∃ W ρ S, Sr0 I K W0 H0 W H O ρ σ S ∧ AtS I K E W0 H0 fr OL W H O' D (m ρ S)
end
section
variable {I : XI} {K : PySem.W.Frag} {E : XK} {W0 : Wd} {H0 : Hp} {fr : Bool} {OL : List Nat} {W W1 : Wd} {H H1 : Hp} {O : List Nat} {ρ : Env} {σ : L2.St} {S S1 : Store}
theorem Sr0.nxt (h : Sr0 I K W0 H0 W H O ρ σ S) (n : Nxt I K W H W1 H1 S1) : Sr0 I K W0 H0 W1 H1 O ρ σ S1 := ⟨h.le.trans n.le, h.kp.trans (n.kp.mono h.le.p), h.sr.nxt n, h.ow⟩
theorem Sr0.n0 (h : Sr0 I K W0 H0 W H O ρ σ S) (n : Nxt I K W H W1 H1 S1) : Nxt I K W0 H0 W1 H1 S1 := ⟨h.le.trans n.le, h.kp.trans (n.kp.mono h.le.p), n.w, n.s⟩
theorem AtS.shift {O' : Option (List Nat)} {D : Ends} {o : Out} (n : NxtR I K W H W1 H1 S1) (h : AtS I K E W0 H0 fr OL W H O' D o) : AtS I K E W0 H0 fr OL W1 H1 O' D o := by
  cases o with
  | nx ρ' S' => exact fun O2 e W' H' σ' sr n' => h O2 e W' H' σ' sr (n.trans n')
  | rt v S' => exact h
  | bk ρ' S' => exact fun W' H' σ' sr n' => h W' H' σ' sr (n.trans n')
  | ct ρ' S' => exact fun W' H' σ' sr n' => h W' H' σ' sr (n.trans n')
  | ex x ρ' S' => exact h
  | bad => exact h
/-- an expression ahead -/
theorem AtS.seq {α β : Type} {kd : Kd α β} {O' : Option (List Nat)} {D : Ends} {r : Res α} {f : α → Store → Out} {Q : β → Hp → Prop} (sr : Sr0 I K W0 H0 W H O ρ σ S) (h : AtS I K E W0 H0 fr OL W H O' D (r.on ρ f))
    (k : ∀ v S1 W1 H1 x, r = .ok v S1 → Nxt I K W H W1 H1 S1 → kd W W1 H1 v x → AtS I K E W0 H0 fr OL W1 H1 O' D (f v S1) → Q x H1) : At I K E kd W H r Q := by
  cases r with
  | ok v S' => exact fun W' H' x n kd => k v S' W' H' x rfl n kd (h.shift (n.nr sr.sr.w))
  | exc y S' => exact fun W' H' cls d n x => h W' H' cls d (sr.n0 n) x
  | bad => exact h
/-- own slots are given up -/
theorem Sr0.weak {O1 : List Nat} (h : Sr0 I K W0 H0 W H O ρ σ S) (s : ∀ i ∈ O1, i ∈ O) : ∃ W', Sr0 I K W0 H0 W' H O1 ρ σ S ∧ NxtR I K W H W' H S := by
  let R' : Addr → Prop := fun b => W.R b ∨ ∃ i, i ∈ O ∧ i ∉ O1 ∧ (∃ p, ρ[i]? = some (some p)) ∧ σ[i]? = some (some (V.ref b))
  have l2 : ∀ b, W.R b → R' b := fun _ z => .inl z
  have m0 : ∀ (n : Nat) (a : Addr), W.μ[n]? = some a → W.μ[n]? = some a := fun _ _ z => z
  have own : ∀ {i : Nat} {b : Addr}, i ∈ O → (∃ p, ρ[i]? = some (some p)) → σ[i]? = some (some (V.ref b)) → ∃ l, ρ[i]? = some (some (.lst l)) ∧ Own I K W H l b := fun {i b} hi ⟨p, hp⟩ hb => by
    obtain ⟨l, a, e, h1, h2⟩ := h.sr.e.ow i p hp hi
    rw [hb] at h1
    cases h1
    exact ⟨l, by rw [hp, e], h2⟩
  have w' : WOk { W with R := R' } H := ⟨fun b z => by
    rcases z with z | ⟨i, hi, _, hp, hb⟩
    · exact h.sr.w.rp b z
    · obtain ⟨l, _, o⟩ := own hi hp hb
      exact o.1, h.sr.w.d, h.sr.w.nd, h.sr.w.mp⟩
  have s' : StRep I K { W with R := R' } H S := ⟨h.sr.s.len, fun n o e => by
    obtain ⟨b, q1, q2⟩ := h.sr.s.ob n o e
    refine ⟨b, q1, ?_⟩
    cases o with
    | lst l =>
      obtain ⟨ys, q3, q4⟩ := q2
      exact ⟨ys, q3, RepVs.mono .refl l2 m0 _ _ q4⟩
    | ro l =>
      obtain ⟨ys, q3, q4⟩ := q2
      exact ⟨ys, q3, RepVs.mono .refl l2 m0 _ _ q4⟩
    | ins c fs => exact q2.elim⟩
  refine ⟨{ W with R := R' }, ⟨⟨h.le.p, fun b z => .inl (h.le.r b z), fun b z q => ?_, h.le.m⟩, h.kp, ⟨w', s', ?_⟩, fun i a hi => h.ow i a (s i hi)⟩, ⟨l2, m0, .refl, w', s'⟩⟩
  · rcases z with z | ⟨i, hi, _, hp, hb⟩
    · exact h.le.n b z q
    · exact absurd q (h.ow i b hi hb hp)
  · refine ⟨h.sr.e.len, fun i p e n => ?_, fun i p e n => ?_, fun i j a hi hj => h.sr.e.ap i j a (s i hi) (s j hj)⟩
    · by_cases hO : i ∈ O
      · obtain ⟨l, a, e1, h1, h2, h3, xs, h4, h5⟩ := h.sr.e.ow i p e hO
        subst e1
        exact ⟨.ref a, h1, a, xs, rfl, ⟨.inr ⟨i, hO, n, ⟨_, e⟩, h1⟩, h4⟩, RepVs.mono .refl l2 m0 _ _ h5⟩
      · obtain ⟨v, h1, h2⟩ := h.sr.e.sh i p e hO
        exact ⟨v, h1, RepV.mono .refl l2 m0 _ _ h2⟩
    · obtain ⟨l, a, e1, h1, h2, h3, xs, h4, h5⟩ := h.sr.e.ow i p e (s i n)
      refine ⟨l, a, e1, h1, h2, fun z => ?_, xs, h4, RepVs.mono .refl l2 m0 _ _ h5⟩
      rcases z with z | ⟨j, hj, hj1, hp, hb⟩
      · exact h3 z
      · have := h.sr.e.ap i j a (s i n) hj h1 hb ⟨p, e⟩ hp
        rw [this] at n
        exact hj1 n
theorem less_sub {O vs : List Nat} : ∀ i ∈ less O vs, i ∈ O := fun _ h => (mem_less.mp h).1
theorem NxtR.refl (w : WOk W H) (s : StRep I K W H S) : NxtR I K W H W H S := ⟨fun _ h => h, fun _ _ h => h, .refl, w, s⟩
/-- a slot is set to what is shared -/
theorem Sr0.set (h : Sr0 I K W0 H0 W H O ρ σ S) {i : Nat} {p : Val} {v : V} (r : Rp I K W H p v) : Sr0 I K W0 H0 W H (less O [i]) (setE ρ i p) (σ.set i (some v)) S :=
  ⟨h.le, h.kp, h.sr.of (h.sr.e.set r), fun j a hj e1 e2 => by
    obtain ⟨h1, h2⟩ := mem_less.mp hj
    have ij : i ≠ j := fun z => h2 (by simp [z])
    rw [List.getElem?_set_ne ij] at e1
    obtain ⟨q, e2⟩ := e2
    unfold setE at e2
    rw [List.getElem?_set_ne ij] at e2
    exact h.ow j a h1 e1 ⟨q, e2⟩⟩
/-- .. to one's own list -/
theorem Sr0.setOwn (h : Sr0 I K W0 H0 W H O ρ σ S) {i : Nat} {l : List Val} {a : Addr} (o : Own I K W H l a) (n0 : ¬ W0.P a) (na : ∀ j, j ∈ O → j ≠ i → σ[j]? = some (some (V.ref a)) → (∃ p, ρ[j]? = some (some p)) → False) :
    Sr0 I K W0 H0 W H (i :: less O [i]) (setE ρ i (.lst l)) (σ.set i (some (.ref a))) S := by
  have hle := h.sr.e.len
  have old : ∀ {j : Nat}, j ∈ i :: less O [i] → j ≠ i → j ∈ O := fun {j} hj hn => by
    rcases List.mem_cons.mp hj with e | e
    · exact absurd e hn
    · exact (mem_less.mp e).1
  have nei : ∀ {j : Nat} {q : Val}, j ≠ i → (setE ρ i (.lst l))[j]? = some (some q) → ρ[j]? = some (some q) := fun {j q} hn e => by
    unfold setE at e
    rw [List.getElem?_set_ne (Ne.symm hn)] at e
    exact e
  refine ⟨h.le, h.kp, h.sr.of ⟨by unfold setE; rw [List.length_set, List.length_set]; exact hle, fun j q e n => ?_, fun j q e n => ?_, fun j k b hj hk e1 e2 e3 e4 => ?_⟩, fun j b hj e1 e2 => ?_⟩
  · have hn : j ≠ i := fun z => n (by rw [z]; exact List.mem_cons_self)
    rw [List.getElem?_set_ne (Ne.symm hn)]
    exact h.sr.e.sh j q (nei hn e) fun z => n (List.mem_cons_of_mem _ (mem_less.mpr ⟨z, by simpa using hn⟩))
  · by_cases hn : j = i
    · subst hn
      have hl : j < ρ.length := by
        have := (List.getElem?_eq_some_iff.mp e).1
        unfold setE at this
        rw [List.length_set] at this
        exact this
      unfold setE at e
      rw [List.getElem?_set_self hl] at e
      cases e
      exact ⟨l, a, rfl, List.getElem?_set_self (by rw [← hle]; exact hl), o⟩
    · rw [List.getElem?_set_ne (Ne.symm hn)]
      exact h.sr.e.ow j q (nei hn e) (old n hn)
  · obtain ⟨q3, e3⟩ := e3
    obtain ⟨q4, e4⟩ := e4
    by_cases hj' : j = i <;> by_cases hk' : k = i
    · rw [hj', hk']
    · exfalso
      rw [List.getElem?_set_ne (Ne.symm hk')] at e2
      rw [hj'] at e1
      have hl : i < σ.length := by
        have := (List.getElem?_eq_some_iff.mp e1).1
        rw [List.length_set] at this
        exact this
      rw [List.getElem?_set_self hl] at e1
      cases e1
      exact na k (old hk hk') hk' e2 ⟨q4, nei hk' e4⟩
    · exfalso
      rw [List.getElem?_set_ne (Ne.symm hj')] at e1
      rw [hk'] at e2
      have hl : i < σ.length := by
        have := (List.getElem?_eq_some_iff.mp e2).1
        rw [List.length_set] at this
        exact this
      rw [List.getElem?_set_self hl] at e2
      cases e2
      exact na j (old hj hj') hj' e1 ⟨q3, nei hj' e3⟩
    · rw [List.getElem?_set_ne (Ne.symm hj')] at e1
      rw [List.getElem?_set_ne (Ne.symm hk')] at e2
      exact h.sr.e.ap j k b (old hj hj') (old hk hk') e1 e2 ⟨q3, nei hj' e3⟩ ⟨q4, nei hk' e4⟩
  · obtain ⟨q, e2⟩ := e2
    by_cases hn : j = i
    · rw [hn] at e1
      have hl : i < σ.length := by
        have := (List.getElem?_eq_some_iff.mp e1).1
        rw [List.length_set] at this
        exact this
      rw [List.getElem?_set_self hl] at e1
      cases e1
      exact n0
    · rw [List.getElem?_set_ne (Ne.symm hn)] at e1
      exact h.ow j b (old hj hn) e1 ⟨q, nei hn e2⟩
/-- one's own list is changed in place -/
theorem Sr0.mut (h : Sr0 I K W0 H0 W H O ρ σ S) {i : Nat} {l l' : List Val} {a : Addr} {xs xs' : List V} (hi : i ∈ O) (hp : ρ[i]? = some (some (.lst l))) (hs : σ[i]? = some (some (V.ref a))) (hH : H a = some (.lst xs)) (r : Rps I K W H l' xs') :
    Sr0 I K W0 H0 W (upd H a (.lst xs')) O (setE ρ i (.lst l')) σ S ∧ NxtR I K W H W (upd H a (.lst xs')) S := by
  obtain ⟨l1, a1, e1, h1, pa, ra, ys, h4, h5⟩ := h.sr.e.ow i _ hp hi
  rw [hs] at h1
  cases h1
  have n0 := h.ow i a hi hs ⟨_, hp⟩
  have kpR : Kp W.R H (upd H a (.lst xs')) := Kp.set hH ra
  have m0 : ∀ (n : Nat) (b : Addr), W.μ[n]? = some b → W.μ[n]? = some b := fun _ _ z => z
  have up : ∀ {p : Val} {v : V}, Rp I K W H p v → Rp I K W (upd H a (.lst xs')) p v := fun {p v} z => RepV.mono kpR (fun _ z => z) m0 p v z
  have ups : ∀ {p : List Val} {v : List V}, Rps I K W H p v → Rps I K W (upd H a (.lst xs')) p v := fun {p v} z => RepVs.mono kpR (fun _ z => z) m0 p v z
  have w' := wok_own (ys := xs') h.sr.w hH
  have s' := st_own (ys := xs') h.sr.w h.sr.s pa ra hH
  have nei : ∀ {j : Nat} {q : Val}, j ≠ i → (setE ρ i (.lst l'))[j]? = some (some q) → ρ[j]? = some (some q) := fun {j q} hn e => by
    unfold setE at e
    rw [List.getElem?_set_ne (Ne.symm hn)] at e
    exact e
  have any : ∀ {j : Nat}, (∃ q, (setE ρ i (.lst l'))[j]? = some (some q)) → ∃ q, ρ[j]? = some (some q) := fun {j} ⟨q, e⟩ => by
    by_cases hn : j = i
    · exact ⟨_, by rw [hn]; exact hp⟩
    · exact ⟨q, nei hn e⟩
  refine ⟨⟨h.le, h.kp.trans (Kp.set hH n0), ⟨w', s', ⟨by unfold setE; rw [List.length_set]; exact h.sr.e.len, fun j q e n => ?_, fun j q e n => ?_, fun j k b hj hk e1 e2 e3 e4 => h.sr.e.ap j k b hj hk e1 e2 (any e3) (any e4)⟩⟩, fun j b hj e1 e2 => h.ow j b hj e1 (any e2)⟩, ⟨fun _ z => z, m0, kpR, w', s'⟩⟩
  · have hn : j ≠ i := fun z => n (by rw [z]; exact hi)
    obtain ⟨v, q1, q2⟩ := h.sr.e.sh j q (nei hn e) n
    exact ⟨v, q1, up q2⟩
  · by_cases hn : j = i
    · subst hn
      have hl : j < ρ.length := (List.getElem?_eq_some_iff.mp hp).1
      unfold setE at e
      rw [List.getElem?_set_self hl] at e
      cases e
      exact ⟨l', a, rfl, hs, pa, ra, xs', upd_same, ups r⟩
    · obtain ⟨l2, b, e2, q1, q2, q3, zs, q4, q5⟩ := h.sr.e.ow j q (nei hn e) n
      have hb : b ≠ a := fun z => by
        subst z
        exact hn (h.sr.e.ap j i b n hi q1 hs ⟨q, nei hn e⟩ ⟨_, hp⟩)
      exact ⟨l2, b, e2, q1, q2, q3, zs, by rw [upd_ne hb]; exact q4, ups q5⟩
end
end Pi

end
section
set_option linter.all false
set_option maxRecDepth 100000
/-! PiJ: statements' rules. -/
namespace Pi
open PySem PySem.Spec PyProof.Rows L2

section
variable {X : Cx} {I : XI} {E : XK} {W0 : Wd} {H0 : Hp} {fr : Bool} {OL : List Nat} {O : List Nat} {O' : Option (List Nat)} {sg : Sig} {cf : String → List Val → Store → Res Val}
abbrev JS (X : Cx) (I : XI) (E : XK) (W0 : Wd) (H0 : Hp) (fr : Bool) (OL O : List Nat) (O' : Option (List Nat)) (m : Env → Store → Out) (st : Stmt) : Prop := PS X st (rdS I X.K E W0 H0 fr OL O O' m)
abbrev JSs (X : Cx) (I : XI) (E : XK) (W0 : Wd) (H0 : Hp) (fr : Bool) (OL O : List Nat) (O' : Option (List Nat)) (m : Env → Store → Out) (st : List Stmt) : Prop := PSs X st (rdS I X.K E W0 H0 fr OL O O' m)
theorem AtS.nx {W : Wd} {H : Hp} {O1 : List Nat} {D : Ends} {ρ' : Env} {S' : Store} {σ' : L2.St} (h : AtS I X.K E W0 H0 fr OL W H (some O1) D (.nx ρ' S')) (sr : Sr0 I X.K W0 H0 W H O1 ρ' σ' S') : D.nx σ' H := h O1 rfl W H σ' sr (.refl sr.sr.w sr.sr.s)
/-! blocks -/
theorem js_nil : JSs X I E W0 H0 fr OL O (some O) (fun ρ S => evSs sg cf [] ρ S) [] :=
  PSs.imp pss_nil fun D σ H ⟨W, ρ, S, sr, q⟩ => by
    simp only [evSs] at q
    exact q.nx sr
theorem js_cons {s : IS} {r : List IS} {st : Stmt} {rest : List Stmt} {O1 : List Nat} (h1 : JS X I E W0 H0 fr OL O (some O1) (fun ρ S => evS sg cf s ρ S) st) (h2 : JSs X I E W0 H0 fr OL O1 O' (fun ρ S => evSs sg cf r ρ S) rest) :
    JSs X I E W0 H0 fr OL O O' (fun ρ S => evSs sg cf (s :: r) ρ S) (st :: rest) := by
  refine PSs.imp (pss_cons h1 h2) fun D σ H ⟨W, ρ, S, sr, q⟩ => ⟨W, ρ, S, sr, ?_⟩
  simp only [evSs] at q
  show AtS I X.K E W0 H0 fr OL W H (some O1) _ (evS sg cf s ρ S)
  cases e : evS sg cf s ρ S with
  | nx ρ' S' =>
    rw [e] at q
    intro O2 e2 W' H' σ' sr' n
    cases e2
    exact ⟨W', ρ', S', sr', q.shift n⟩
  | rt v S' => rw [e] at q; exact q
  | bk ρ' S' => rw [e] at q; exact q
  | ct ρ' S' => rw [e] at q; exact q
  | ex x ρ' S' => rw [e] at q; exact q
  | bad => rw [e] at q; exact q
/-- a statement behind which nothing is reached -/
theorem js_last {s : IS} {r : List IS} {st : Stmt} {rest : List Stmt} (h1 : JS X I E W0 H0 fr OL O none (fun ρ S => evS sg cf s ρ S) st) :
    JSs X I E W0 H0 fr OL O O' (fun ρ S => evSs sg cf (s :: r) ρ S) (st :: rest) := by
  refine PSs.imp (pss_cons h1 (pss_never (sts := rest))) fun D σ H ⟨W, ρ, S, sr, q⟩ => ⟨W, ρ, S, sr, ?_⟩
  simp only [evSs] at q
  show AtS I X.K E W0 H0 fr OL W H none _ (evS sg cf s ρ S)
  cases e : evS sg cf s ρ S with
  | nx ρ' S' => intro O2 e2; cases e2
  | rt v S' => rw [e] at q; exact q
  | bk ρ' S' => rw [e] at q; exact q
  | ct ρ' S' => rw [e] at q; exact q
  | ex x ρ' S' => rw [e] at q; exact q
  | bad => rw [e] at q; exact q
theorem JS.to {m : Env → Store → Out} {st : Stmt} {O1 O2 : List Nat} (h : JS X I E W0 H0 fr OL O (some O1) m st) (s : ∀ i ∈ O2, i ∈ O1) : JS X I E W0 H0 fr OL O (some O2) m st := by
  refine PS.imp h fun D σ H ⟨W, ρ, S, sr, q⟩ => ⟨W, ρ, S, sr, ?_⟩
  cases e : m ρ S with
  | nx ρ' S' =>
    rw [e] at q
    intro O3 e3 W' H' σ' sr' n
    cases e3
    obtain ⟨W2, sr2, n2⟩ := sr'.weak s
    exact q O2 rfl W2 H' σ' sr2 (n.trans n2)
  | rt v S' => rw [e] at q; exact q
  | bk ρ' S' => rw [e] at q; exact q
  | ct ρ' S' => rw [e] at q; exact q
  | ex x ρ' S' => rw [e] at q; exact q
  | bad => rw [e] at q; exact q
theorem JSs.to {m : Env → Store → Out} {st : List Stmt} {O1 O2 : List Nat} (h : JSs X I E W0 H0 fr OL O (some O1) m st) (s : ∀ i ∈ O2, i ∈ O1) : JSs X I E W0 H0 fr OL O (some O2) m st := by
  refine PSs.imp h fun D σ H ⟨W, ρ, S, sr, q⟩ => ⟨W, ρ, S, sr, ?_⟩
  cases e : m ρ S with
  | nx ρ' S' =>
    rw [e] at q
    intro O3 e3 W' H' σ' sr' n
    cases e3
    obtain ⟨W2, sr2, n2⟩ := sr'.weak s
    exact q O2 rfl W2 H' σ' sr2 (n.trans n2)
  | rt v S' => rw [e] at q; exact q
  | bk ρ' S' => rw [e] at q; exact q
  | ct ρ' S' => rw [e] at q; exact q
  | ex x ρ' S' => rw [e] at q; exact q
  | bad => rw [e] at q; exact q
theorem JSs.never {m : Env → Store → Out} {st : List Stmt} (h : JSs X I E W0 H0 fr OL O none m st) : JSs X I E W0 H0 fr OL O O' m st := by
  refine PSs.imp h fun D σ H ⟨W, ρ, S, sr, q⟩ => ⟨W, ρ, S, sr, ?_⟩
  cases e : m ρ S with
  | nx ρ' S' => intro O3 e3; cases e3
  | rt v S' => rw [e] at q; exact q
  | bk ρ' S' => rw [e] at q; exact q
  | ct ρ' S' => rw [e] at q; exact q
  | ex x ρ' S' => rw [e] at q; exact q
  | bad => rw [e] at q; exact q
/-- own slots given up ahead -/
theorem JSs.from {m : Env → Store → Out} {st : List Stmt} {O1 : List Nat} (h : JSs X I E W0 H0 fr OL O1 O' m st) (s : ∀ i ∈ O1, i ∈ O) : JSs X I E W0 H0 fr OL O O' m st := by
  refine PSs.imp h fun D σ H ⟨W, ρ, S, sr, q⟩ => ?_
  obtain ⟨W2, sr2, n2⟩ := sr.weak s
  exact ⟨W2, ρ, S, sr2, q.shift n2⟩
theorem js_share {i : Nat} {r : List IS} {st : List Stmt} (h : JSs X I E W0 H0 fr OL (less O [i]) O' (fun ρ S => evSs sg cf r ρ S) st) : JSs X I E W0 H0 fr OL O O' (fun ρ S => evSs sg cf (.share i :: r) ρ S) st := by
  refine PSs.imp (JSs.from h less_sub) fun D σ H ⟨W, ρ, S, sr, q⟩ => ⟨W, ρ, S, sr, ?_⟩
  simp only [evSs, evS, Out.then_nx] at q
  exact q
/-! small ones -/
theorem setE_ne {ρ : Env} {i j : Nat} {v : Val} (h : i ≠ j) : (setE ρ i v)[j]? = ρ[j]? := by
  unfold setE
  rw [List.getElem?_set_ne h]
mutual
theorem bindP_same : ∀ (p : Pat) (v : Val) (ρ ρ' : Env) (j : Nat), bindP p v ρ = some ρ' → j ∉ p.vars → ρ'[j]? = ρ[j]?
  | .v i, v, ρ, ρ', j, h, hj => by
    cases h
    exact setE_ne (fun z => hj (by simp [Pat.vars, z]))
  | .tup ps, v, ρ, ρ', j, h, hj => by
    cases v <;> try (cases h; done)
    rename_i l
    have h : (if l.length = ps.length then bindPs ps l ρ else none) = some ρ' := h
    by_cases c : l.length = ps.length
    · rw [if_pos c] at h
      exact bindPs_same ps l ρ ρ' j h hj
    · rw [if_neg c] at h
      cases h
  | .star ps i, v, ρ, ρ', j, h, hj => by
    have hj : j ∉ Pat.varsL ps ++ [i] := hj
    have go : ∀ l : List Val, (if ps.length ≤ l.length then (bindPs ps (l.take ps.length) ρ).map (fun ρ' => setE ρ' i (.lst (l.drop ps.length))) else none) = some ρ' → ρ'[j]? = ρ[j]? := fun l h => by
      by_cases c : ps.length ≤ l.length
      · rw [if_pos c] at h
        cases e : bindPs ps (l.take ps.length) ρ with
        | none => rw [e] at h; cases h
        | some ρ1 =>
          rw [e] at h
          cases h
          rw [setE_ne (fun z => hj (by simp [z]))]
          exact bindPs_same ps _ ρ ρ1 j e fun z => hj (List.mem_append_left _ z)
      · rw [if_neg c] at h
        cases h
    cases v <;> first | exact go _ h | (cases h; done)
theorem bindPs_same : ∀ (ps : List Pat) (vs : List Val) (ρ ρ' : Env) (j : Nat), bindPs ps vs ρ = some ρ' → j ∉ Pat.varsL ps → ρ'[j]? = ρ[j]?
  | [], [], ρ, ρ', j, h, _ => by cases h; rfl
  | [], _ :: _, _, _, _, h, _ => by cases h
  | _ :: _, [], _, _, _, h, _ => by cases h
  | p :: ps, v :: vs, ρ, ρ', j, h, hj => by
    have hj : j ∉ p.vars ++ Pat.varsL ps := hj
    have h : (bindP p v ρ).bind (fun ρ' => bindPs ps vs ρ') = some ρ' := h
    cases e : bindP p v ρ with
    | none => rw [e] at h; cases h
    | some ρ1 =>
      rw [e] at h
      exact (bindPs_same ps vs ρ1 ρ' j h fun z => hj (List.mem_append_right _ z)).trans (bindP_same p v ρ ρ1 j e fun z => hj (List.mem_append_left _ z))
end
/-- behind a target -/
theorem Sr0.bound {W W2 : Wd} {H H2 : Hp} {ρ ρ' : Env} {σ σ2 : L2.St} {S S2 : Store} {pt : Pat} {v : Val} (sr : Sr0 I X.K W0 H0 W H O ρ σ S) (n : Nxt I X.K W H W2 H2 S2) (e : bindP pt v ρ = some ρ') (sr2 : Sr I X.K W2 H2 (less O pt.vars) ρ' σ2 S2) (a : Alike pt.vars σ σ2) :
    Sr0 I X.K W0 H0 W2 H2 (less O pt.vars) ρ' σ2 S2 := by
  have sr3 := sr.nxt n
  refine ⟨sr3.le, sr3.kp, sr2, fun i b hi e3 e4 => ?_⟩
  obtain ⟨h3, h4⟩ := mem_less.mp hi
  rw [a.same i h4] at e3
  rw [bindP_same pt v ρ ρ' i e h4] at e4
  exact sr.ow i b h3 e3 e4

theorem js_pass {pos : Pos} : JS X I E W0 H0 fr OL O (some O) (fun ρ S => evS sg cf .pass ρ S) (.Pass pos) :=
  PS.imp ps_pass fun D σ H ⟨W, ρ, S, sr, q⟩ => by
    simp only [evS] at q
    exact q.nx sr
theorem js_brk {pos : Pos} (s : ∀ i ∈ OL, i ∈ O) : JS X I E W0 H0 fr OL O none (fun ρ S => evS sg cf .brk ρ S) (.Break pos) :=
  PS.imp ps_break fun D σ H ⟨W, ρ, S, sr, q⟩ => by
    simp only [evS] at q
    obtain ⟨W2, sr2, n2⟩ := sr.weak s
    exact q W2 H σ sr2 n2
theorem js_cnt {pos : Pos} (s : ∀ i ∈ OL, i ∈ O) : JS X I E W0 H0 fr OL O none (fun ρ S => evS sg cf .cnt ρ S) (.Continue pos) :=
  PS.imp ps_continue fun D σ H ⟨W, ρ, S, sr, q⟩ => by
    simp only [evS] at q
    obtain ⟨W2, sr2, n2⟩ := sr.weak s
    exact q W2 H σ sr2 n2
theorem js_expr {e : IE} {ee : Expr} {pos : Pos} (h : JE X I (fun _ => E) O (kB I X.K) (fun ρ S => evE sg cf ρ e S) ee) (hs : swapsWith ee none pos.line X.env = pure false) : JS X I E W0 H0 fr OL O (some O) (fun ρ S => evS sg cf (.expr e) ρ S) (.Expr ee pos) :=
  PS.imp (ps_expr h hs) fun D σ H ⟨W, ρ, S, sr, q⟩ => by
    simp only [evS] at q
    exact ⟨W, ρ, S, sr.sr, q.seq sr fun v S1 W1 H1 x e1 n1 k1 q1 => q1.nx (sr.nxt n1)⟩
theorem js_retS {e : IE} {ee : Expr} {pos : Pos} (hf : fr = false) (h : JE X I (fun _ => E) O (kS I X.K) (fun ρ S => evE sg cf ρ e S) ee) : JS X I E W0 H0 fr OL O none (fun ρ S => evS sg cf (.ret e) ρ S) (.Return (some ee) pos) :=
  PS.imp (ps_ret h) fun D σ H ⟨W, ρ, S, sr, q⟩ => by
    simp only [evS] at q
    refine ⟨W, ρ, S, sr.sr, q.seq sr fun v S1 W1 H1 x e1 n1 k1 q1 => q1 W1 H1 x (sr.n0 n1) ?_⟩
    subst hf
    exact k1
theorem js_retF {e : IE} {ee : Expr} {pos : Pos} (hf : fr = true) (h : JE X I (fun _ => E) O (kF I X.K) (fun ρ S => evE sg cf ρ e S) ee) : JS X I E W0 H0 fr OL O none (fun ρ S => evS sg cf (.ret e) ρ S) (.Return (some ee) pos) :=
  PS.imp (ps_ret h) fun D σ H ⟨W, ρ, S, sr, q⟩ => by
    simp only [evS] at q
    refine ⟨W, ρ, S, sr.sr, q.seq sr fun v S1 W1 H1 x e1 n1 k1 q1 => q1 W1 H1 x (sr.n0 n1) ?_⟩
    subst hf
    exact kF_anti I X.K W0 W W1 H1 v x sr.le k1
/-- one's own list is given back -/
theorem js_retO {i : Nat} {x : Str} {p pos : Pos} (hf : fr = true) (hi : i ∈ O) (hN : X.N[i]? = some x) (hv : Vis X.env.scope x) (hd : (x == ("__debug__" : Str)) = false) (hcd : (x == ("__classdict__" : Str)) = false) :
    JS X I E W0 H0 fr OL O none (fun ρ S => evS sg cf (.ret (.lv i)) ρ S) (.Return (some (.Name x p)) pos) :=
  PS.imp (ps_ret (pe_var hN hv hd hcd)) fun D σ H ⟨W, ρ, S, sr, q⟩ => by
    simp only [evS, evE] at q
    split at q
    · rename_i v hv'
      obtain ⟨l, a, rfl, h1, h2⟩ := sr.sr.e.ow i v hv' hi
      refine ⟨.ref a, h1, q W H (.ref a) ⟨sr.le, sr.kp, sr.sr.w, sr.sr.s⟩ ?_⟩
      subst hf
      exact ⟨a, rfl, h2, sr.ow i a hi h1 ⟨_, hv'⟩⟩
    · exact q.elim
theorem js_retN {pos : Pos} : JS X I E W0 H0 fr OL O none (fun ρ S => evS sg cf .retN ρ S) (.Return none pos) :=
  PS.imp ps_retN fun D σ H ⟨W, ρ, S, sr, q⟩ => by
    simp only [evS] at q
    refine q W H .non ⟨sr.le, sr.kp, sr.sr.w, sr.sr.s⟩ ?_
    cases fr <;> exact (rfl : V.non = V.non)
/-! names -/
theorem js_asg {i : Nat} {x : Str} {e : IE} {ee : Expr} {p pos : Pos} (hN : X.N.Nodup) (hi : X.N[i]? = some x) (hx : Loc X.env.scope x) (hf : X.fn x = true ∨ X.env.scope.names.lookup x = some .local)
    (hs : swapsWith ee (some (.Name x p)) pos.line X.env = pure false) (h : JE X I (fun _ => E) O (kS I X.K) (fun ρ S => evE sg cf ρ e S) ee) :
    JS X I E W0 H0 fr OL O (some (less O [i])) (fun ρ S => evS sg cf (.asg (.v i) e) ρ S) (.Assign [.Name x p] ee pos) :=
  PS.imp (ps_set hN hi hx h hs hf) fun D σ H ⟨W, ρ, S, sr, q⟩ => by
    simp only [evS] at q
    exact ⟨W, ρ, S, sr.sr, q.seq sr fun v S1 W1 H1 y e1 n1 k1 q1 => q1.nx ((sr.nxt n1).set k1)⟩
theorem js_own {i : Nat} {x : Str} {e : IE} {ee : Expr} {p pos : Pos} (hN : X.N.Nodup) (hi : X.N[i]? = some x) (hx : Loc X.env.scope x) (hf : X.fn x = true ∨ X.env.scope.names.lookup x = some .local)
    (hs : swapsWith ee (some (.Name x p)) pos.line X.env = pure false) (h : JE X I (fun _ => E) O (kF I X.K) (fun ρ S => evE sg cf ρ e S) ee) :
    JS X I E W0 H0 fr OL O (some (i :: less O [i])) (fun ρ S => evS sg cf (.own i e) ρ S) (.Assign [.Name x p] ee pos) :=
  PS.imp (ps_set hN hi hx h hs hf) fun D σ H ⟨W, ρ, S, sr, q⟩ => by
    simp only [evS] at q
    refine ⟨W, ρ, S, sr.sr, q.seq sr fun v S1 W1 H1 y e1 n1 k1 q1 => ?_⟩
    cases v <;> try (exact q1.elim)
    obtain ⟨a, rfl, h2, h3⟩ := k1
    refine q1.nx ((sr.nxt n1).setOwn h2 (fun z => h3 (sr.le.p a z)) fun j hj _ e2 e3 => ?_)
    obtain ⟨q3, e3⟩ := e3
    obtain ⟨l, b, _, h4, h5⟩ := sr.sr.e.ow j _ e3 hj
    rw [e2] at h4
    cases h4
    exact h3 h5.1
theorem AtS.lc {k : Nat} {its : List IE} {p : Pat} {cs : List IE} {e : IE} {W : Wd} {H : Hp} {σ : L2.St} {ρ : Env} {S : Store} {Q : VK} (sr : Sr I X.K W H O ρ σ S) (h : At I X.K E (kF I X.K) W H (evE sg cf ρ (.comp k its p cs e) S) Q) :
    tLc (rd I X.K (fun _ => E) O (kI I X.K) (evIt sg cf k its)) (gP I X.K O p) (rd I X.K (fun _ => E0') (less O p.vars) kT (fun ρ S => evTs sg cf ρ cs S)) (rd I X.K (fun _ => E0') (less O p.vars) (kS I X.K) (fun ρ S => evE sg cf ρ e S)) p.vars σ H Q :=
  comp_rd (E := fun _ => E) ⟨W, ρ, S, sr, h⟩
/-- a tuple of targets -/
theorem js_asgP {pt : Pat} {tg : Expr} {e : IE} {ee : Expr} {pos : Pos} (hg : PG X tg (gP I X.K O pt)) (hs : swapsWithSole [tg] ee pos.line X.env = pure false) (hw : swappedStores [tg] ee X.env = pure none)
    (h1 : (assignEach [tg] X.env).map (·.2) = [assign tg X.env]) (h : JE X I (fun _ => E) O (kS I X.K) (fun ρ S => evE sg cf ρ e S) ee) :
    JS X I E W0 H0 fr OL O (some (less O pt.vars)) (fun ρ S => evS sg cf (.asg pt e) ρ S) (.Assign [tg] ee pos) :=
  PS.imp (ps_asg h hg hs hw h1) fun D σ H ⟨W, ρ, S, sr, q⟩ => by
    simp only [evS] at q
    refine ⟨W, ρ, S, sr.sr, q.seq sr fun v S1 W1 H1 y e1 n1 k1 q1 => ?_⟩
    cases e2 : bindP pt v ρ with
    | none => rw [e2] at q1; exact q1.elim
    | some ρ' =>
      rw [e2] at q1
      have sr1 := sr.nxt n1
      refine ⟨W1, ρ, S1, v, ρ', sr1.sr, k1, e2, fun W2 H2 σ2 n2 sr2 a2 => ?_⟩
      exact q1 _ rfl W2 H2 σ2 (sr1.bound n2 e2 sr2 a2) (n2.nr sr1.sr.w)
/-- name op= e -/
theorem js_aug {i : Nat} {x : Str} {o : Bop} {e : IE} {ee : Expr} {p pos : Pos} {r : R2} (hO : i ∉ O) (hN : X.N.Nodup) (hi : X.N[i]? = some x) (hx : Loc X.env.scope x) (hf : X.fn x = true ∨ X.env.scope.names.lookup x = some .local)
    (ho : PIp X (bopO o) r) (ok : R2Ok I X.K r (augV o)) (h : JE X I (fun _ => E) O (kB I X.K) (fun ρ S => evE sg cf ρ e S) ee) :
    JS X I E W0 H0 fr OL O (some (less O [i])) (fun ρ S => evS sg cf (.aug i o e) ρ S) (.AugAssign (.Name x p) (bopO o) ee pos) :=
  PS.imp (ps_aug hN hi hx h ho hf) fun D σ H ⟨W, ρ, S, sr, q⟩ => by
    simp only [evS] at q
    split at q
    · rename_i v hv
      obtain ⟨y, h1, h2⟩ := sr.sr.e.sh i v hv hO
      refine ⟨y, h1, W, ρ, S, sr.sr, q.seq sr fun u S1 W1 H1 z e1 n1 k1 q1 => ?_⟩
      cases e2 : augV o v u with
      | none => rw [e2] at q1; exact q1.elim
      | some t =>
        rw [e2] at q1
        refine ok W1 H1 S1 v u t y z _ n1.w n1.s (Rp.kb n1.w (Rp.up n1.le n1.kp sr.sr.w h2)) k1 e2 fun W2 H2 t' le kp w s k => ?_
        obtain ⟨W3, a1, a2, a3, a4, a5, a6⟩ := KF.share le w s k
        have n2 : Nxt I X.K W1 H1 W3 H2 S1 := ⟨a1, kp, a4, a5⟩
        exact q1 _ rfl W3 H2 _ (((sr.nxt n1).nxt n2).set a6) (n2.nr n1.w)
    · exact q.elim
/-! one's own list by its methods -/
theorem own_at {W : Wd} {H : Hp} {ρ : Env} {σ : L2.St} {S : Store} {i : Nat} {l : List Val} (sr : Sr I X.K W H O ρ σ S) (hi : i ∈ O) (e : lstE ρ i = some l) : ρ[i]? = some (some (.lst l)) ∧ ∃ a xs, σ[i]? = some (some (V.ref a)) ∧ H a = some (.lst xs) ∧ Rps I X.K W H l xs := by
  unfold lstE at e
  split at e
  · rename_i l' h'
    cases e
    obtain ⟨l2, a, e2, h1, h2, h3, xs, h4, h5⟩ := sr.e.ow i _ h' hi
    cases e2
    exact ⟨h', a, xs, h1, h4, h5⟩
  · cases e
theorem js_app {i : Nat} {x : Str} {e : IE} {ee : Expr} {p apos cpos pos : Pos} (hi : i ∈ O) (hN : X.N[i]? = some x) (hv : Vis X.env.scope x) (hd : (x == ("__debug__" : Str)) = false) (hcd : (x == ("__classdict__" : Str)) = false)
    (hline : (apos.endLine == cpos.line) = true) (h : JE X I (fun _ => E) O (kS I X.K) (fun ρ S => evE sg cf ρ e S) ee) (hst : starEach [ee] X.env = [(false, eval ee X.env)])
    (hfew : ((backTo cpos (starEach [ee] X.env)).all (fun x => !x.1) && (backToKw cpos (keywordEach [] X.env)).all (fun x => x.1.isSome) && decide ([ee].length + ([] : List Keyword).length + (if ([] : List Keyword).isEmpty then 0 else 1) < 30)) = true) :
    JS X I E W0 H0 fr OL O (some O) (fun ρ S => evS sg cf (.app i e) ρ S) (.Expr (.Call (.Attribute (.Name x p) "append" apos) [ee] [] cpos) pos) := by
  refine PS.imp (ps_expr (pe_bm PySem.F.plainAttrs_list PySem.F.slot_list_append PySem.F.type_list_append mt_append (pe_var hN hv hd hcd) (ja_consS h ja_nilS hst) rfl hfew hline hst rfl) rfl) fun D σ H ⟨W, ρ, S, sr, q⟩ => ?_
  simp only [evS] at q
  cases e0 : lstE ρ i with
  | none => rw [e0] at q; exact q.elim
  | some l =>
    rw [e0] at q
    obtain ⟨hp, a, xs, hs, hH, rx⟩ := own_at sr.sr hi e0
    obtain ⟨_, _, _, _, o⟩ := sr.sr.e.ow i _ hp hi
    refine ⟨.ref a, hs, .inl ⟨rfl, xs, .of hH⟩, W, ρ, S, sr.sr, ?_⟩
    have e1 : evEs sg cf ρ [e] S = (evE sg cf ρ e S).bind fun v S1 => .ok [v] S1 := evEs_one
    show At I X.K E (kSs I X.K) W H (evEs sg cf ρ [e] S) _
    rw [e1]
    cases e2 : evE sg cf ρ e S with
    | bad => rw [e2] at q; exact q
    | exc y S1 =>
      rw [e2] at q
      exact fun W' H' cls d n x => q W' H' cls d (sr.n0 n) x
    | ok v S1 =>
      rw [e2] at q
      simp only [Res.on_ok] at q
      intro W1 H1 vs n1 k1
      obtain ⟨y, rfl, ry⟩ := rps_one k1
      have sr1 := sr.nxt n1
      obtain ⟨_, a', xs', hs', hH', rx'⟩ := own_at sr1.sr hi e0
      rw [hs] at hs'
      cases hs'
      by_cases hl : l.length < lim
      · rw [if_pos hl] at q
        refine ⟨a, xs', y, rfl, rfl, hH', by rw [← RepVs.length rx', sizeLine_lim]; exact hl, ?_⟩
        have m := sr1.mut (l' := l ++ [v]) (xs' := xs' ++ [y]) hi hp hs hH' (RepVs.append rx' ⟨y, [], rfl, ry, rfl⟩)
        exact q _ rfl W1 _ σ m.1 ((n1.nr sr.sr.w).trans m.2)
      · rw [if_neg hl] at q
        exact q.elim
theorem pop_none {l : List Val} {xs : List V} {W : Wd} {H : Hp} {v : Val} {l' : List Val} (r : Rps I X.K W H l xs) (e : popL l none = some (v, l')) : ∃ y, xs[xs.length - 1]? = some y ∧ Rp I X.K W H v y ∧ l' = l.dropLast ∧ Rps I X.K W H l.dropLast xs.dropLast := by
  have e : (l.getLast?.map fun v => (v, l.dropLast)) = some (v, l') := e
  cases q : l.getLast? with
  | none => rw [q] at e; cases e
  | some u =>
    rw [q] at e
    cases e
    have ln := RepVs.length r
    rw [List.getLast?_eq_getElem?] at q
    obtain ⟨y, hy, ry⟩ := r.get q
    refine ⟨y, by rw [← ln]; exact hy, ry, rfl, ?_⟩
    rw [List.dropLast_eq_take, List.dropLast_eq_take, ← ln]
    exact r.take _
theorem RepVs.erase {W : Wd} {H : Hp} : ∀ {l : List Val} {xs : List V} (n : Nat), Rps I X.K W H l xs → Rps I X.K W H (l.eraseIdx n) (xs.eraseIdx n) := fun {l xs} n r => by
  rw [List.eraseIdx_eq_take_drop_succ, List.eraseIdx_eq_take_drop_succ]
  exact RepVs.append (r.take n) (r.drop (n + 1))
theorem pop_some {l : List Val} {xs : List V} {W : Wd} {H : Hp} {v : Val} {l' : List Val} {n : Int} (r : Rps I X.K W H l xs) (e : popL l (some n) = some (v, l')) :
    ∃ (m : Nat) (y : V), -(2 ^ 63) ≤ n ∧ n < 2 ^ 63 ∧ seqIndex? n xs.length = some m ∧ xs[m]? = some y ∧ Rp I X.K W H v y ∧ Rps I X.K W H l' (xs.eraseIdx m) := by
  have e : (if -(2 ^ 63) ≤ n ∧ n < 2 ^ 63 then (Pi.ixN l.length n).bind fun m => l[m]?.map fun v => (v, l.eraseIdx m) else none) = some (v, l') := e
  by_cases c : -(2 ^ 63) ≤ n ∧ n < 2 ^ 63
  · rw [if_pos c] at e
    cases q : Pi.ixN l.length n with
    | none => rw [q] at e; cases e
    | some m =>
      rw [q] at e
      have e : (l[m]?.map fun v => (v, l.eraseIdx m)) = some (v, l') := e
      cases q2 : l[m]? with
      | none => rw [q2] at e; cases e
      | some u =>
        rw [q2] at e
        cases e
        obtain ⟨y, hy, ry⟩ := r.get q2
        have q' : L2.ixN xs.length n = some m := by rw [← RepVs.length r]; exact q
        exact ⟨m, y, c.1, c.2, (ixN_seq q').1, hy, ry, RepVs.erase m r⟩
  · rw [if_neg c] at e
    cases e
theorem js_pop0 {i : Nat} {x : Str} {p apos cpos pos : Pos} (hi : i ∈ O) (hN : X.N[i]? = some x) (hv : Vis X.env.scope x) (hd : (x == ("__debug__" : Str)) = false) (hcd : (x == ("__classdict__" : Str)) = false)
    (hline : (apos.endLine == cpos.line) = true) : JS X I E W0 H0 fr OL O (some O) (fun ρ S => evS sg cf (.pop i []) ρ S) (.Expr (.Call (.Attribute (.Name x p) "pop" apos) [] [] cpos) pos) := by
  refine PS.imp (ps_expr (pe_bm0 PySem.F.plainAttrs_list PySem.F.slot_list_pop PySem.F.type_list_pop mt_pop (pe_var hN hv hd hcd) rfl hline) rfl) fun D σ H ⟨W, ρ, S, sr, q⟩ => ?_
  simp only [evS] at q
  cases e0 : lstE ρ i with
  | none => rw [e0] at q; exact q.elim
  | some l =>
    rw [e0] at q
    simp only [evO, Res.on_ok] at q
    obtain ⟨hp, a, xs, hs, hH, rx⟩ := own_at sr.sr hi e0
    cases e1 : popL l none with
    | none => rw [e1] at q; exact q.elim
    | some vl =>
      obtain ⟨v, l'⟩ := vl
      rw [e1] at q
      obtain ⟨y, h1, h2, rfl, h3⟩ := pop_none rx e1
      have m := sr.mut hi hp hs hH h3
      exact ⟨.ref a, hs, .inl ⟨rfl, xs, .of hH⟩, a, xs, y, rfl, rfl, hH, h1, q _ rfl W _ σ m.1 m.2⟩
theorem js_popTo0 {i j : Nat} {x y : Str} {p apos cpos pos py : Pos} (hij : i ≠ j) (hi : i ∈ O) (hN : X.N[i]? = some x) (hv : Vis X.env.scope x) (hd : (x == ("__debug__" : Str)) = false) (hcd : (x == ("__classdict__" : Str)) = false)
    (hnd : X.N.Nodup) (hj : X.N[j]? = some y) (hy : Loc X.env.scope y) (hf : X.fn y = true ∨ X.env.scope.names.lookup y = some .local)
    (hline : (apos.endLine == cpos.line) = true) : JS X I E W0 H0 fr OL O (some (less O [j])) (fun ρ S => evS sg cf (.popTo j i []) ρ S) (.Assign [.Name y py] (.Call (.Attribute (.Name x p) "pop" apos) [] [] cpos) pos) := by
  refine PS.imp (ps_set hnd hj hy (pe_bm0 PySem.F.plainAttrs_list PySem.F.slot_list_pop PySem.F.type_list_pop mt_pop (pe_var hN hv hd hcd) rfl hline) rfl hf) fun D σ H ⟨W, ρ, S, sr, q⟩ => ?_
  simp only [evS] at q
  cases e0 : lstE ρ i with
  | none => rw [e0] at q; exact q.elim
  | some l =>
    rw [e0] at q
    simp only [evO, Res.on_ok] at q
    obtain ⟨hp, a, xs, hs, hH, rx⟩ := own_at sr.sr hi e0
    cases e1 : popL l none with
    | none => rw [e1] at q; exact q.elim
    | some vl =>
      obtain ⟨v, l'⟩ := vl
      rw [e1] at q
      obtain ⟨y, h1, h2, rfl, h3⟩ := pop_none rx e1
      have m := sr.mut hi hp hs hH h3
      have r2 : Rp I X.K W (upd H a (.lst xs.dropLast)) v y := RepV.mono m.2.kp (fun _ z => z) (fun _ _ z => z) _ _ h2
      exact ⟨.ref a, hs, .inl ⟨rfl, xs, .of hH⟩, a, xs, y, rfl, rfl, hH, h1, q _ rfl W _ _ (m.1.set r2) m.2⟩
/-- what x.pop(k) reads -/
theorem popK_rd {i : Nat} {k : IE} {D : L2.St → Hp → VK} {W : Wd} {H : Hp} {ρ : Env} {σ : L2.St} {S : Store} {Q : VK} (f : Val → List Val → Store → Out) {DD : Ends} (hi : i ∈ O) (sr : Sr0 I X.K W0 H0 W H O ρ σ S)
    (q : AtS I X.K E W0 H0 fr OL W H O' DD (match lstE ρ i with
      | some l => (evO sg cf ρ [k] S).on ρ fun n S1 => (match popL l n with
        | some (v, l') => f v l' S1
        | none => .bad)
      | none => .bad))
    (go : ∀ v l' S1 W1 H1 a xs xs' y, Nxt I X.K W H W1 H1 S1 → σ[i]? = some (some (V.ref a)) → H1 a = some (.lst xs) → (∃ l, ρ[i]? = some (some (.lst l))) → Rp I X.K W1 H1 v y → Rps I X.K W1 H1 l' xs' → AtS I X.K E W0 H0 fr OL W1 H1 O' DD (f v l' S1) → Q y (upd H1 a (.lst xs'))) :
    tBM X.K "list" rPopAt (tVar i) (rd I X.K (fun _ => E) O (kBs I X.K) (fun ρ S => evEs sg cf ρ [k] S)) σ H Q := by
  cases e0 : lstE ρ i with
  | none => rw [e0] at q; exact q.elim
  | some l =>
    rw [e0] at q
    obtain ⟨hp, a, xs, hs, hH, rx⟩ := own_at sr.sr hi e0
    refine ⟨.ref a, hs, .inl ⟨rfl, xs, .of hH⟩, W, ρ, S, sr.sr, ?_⟩
    have e1 : evEs sg cf ρ [k] S = (evE sg cf ρ k S).bind fun v S1 => .ok [v] S1 := evEs_one
    show At I X.K E (kBs I X.K) W H (evEs sg cf ρ [k] S) _
    rw [e1]
    simp only [evO] at q
    cases e2 : evE sg cf ρ k S with
    | bad => rw [e2] at q; exact q
    | exc y S1 =>
      rw [e2] at q
      exact fun W' H' cls d n x => q W' H' cls d (sr.n0 n) x
    | ok v S1 =>
      rw [e2] at q
      simp only [Res.bind_ok] at q ⊢
      cases v <;> try (exact q.elim)
      rename_i n
      simp only [Res.on_ok] at q
      intro W1 H1 vs n1 k1
      obtain ⟨y, rfl, ry⟩ := one_of k1
      cases ry
      cases e3 : popL l (some n) with
      | none => rw [e3] at q; exact q.elim
      | some vl =>
        obtain ⟨v, l'⟩ := vl
        rw [e3] at q
        obtain ⟨_, a', xs', hs', hH', rx'⟩ := own_at (sr.nxt n1).sr hi e0
        rw [hs] at hs'
        cases hs'
        obtain ⟨m, y, b1, b2, b3, b4, b5, b6⟩ := pop_some rx' e3
        exact ⟨a, xs', n, m, y, rfl, rfl, hH', b1, b2, b3, b4, go v l' S1 W1 H1 a xs' _ y n1 hs hH' ⟨l, hp⟩ b5 b6 (q.shift (n1.nr sr.sr.w))⟩
theorem js_popK {i : Nat} {x : Str} {k : IE} {ek : Expr} {p apos cpos pos : Pos} (hi : i ∈ O) (hN : X.N[i]? = some x) (hv : Vis X.env.scope x) (hd : (x == ("__debug__" : Str)) = false) (hcd : (x == ("__classdict__" : Str)) = false)
    (hline : (apos.endLine == cpos.line) = true) (h : JE X I (fun _ => E) O (kB I X.K) (fun ρ S => evE sg cf ρ k S) ek) (hst : starEach [ek] X.env = [(false, eval ek X.env)])
    (hfew : ((backTo cpos (starEach [ek] X.env)).all (fun x => !x.1) && (backToKw cpos (keywordEach [] X.env)).all (fun x => x.1.isSome) && decide ([ek].length + ([] : List Keyword).length + (if ([] : List Keyword).isEmpty then 0 else 1) < 30)) = true) :
    JS X I E W0 H0 fr OL O (some O) (fun ρ S => evS sg cf (.pop i [k]) ρ S) (.Expr (.Call (.Attribute (.Name x p) "pop" apos) [ek] [] cpos) pos) := by
  refine PS.imp (ps_expr (pe_bm PySem.F.plainAttrs_list PySem.F.slot_list_pop PySem.F.type_list_pop mt_popAt (pe_var hN hv hd hcd) (ja_consB h ja_nilB hst) rfl hfew hline hst rfl) rfl) fun D σ H ⟨W, ρ, S, sr, q⟩ => ?_
  simp only [evS] at q
  refine popK_rd (fun _ l' S1 => .nx (setE ρ i (.lst l')) S1) (D := fun _ _ => D.rt) hi sr q fun v l' S1 W1 H1 a xs xs' y n1 hs hH ⟨l, hp⟩ r1 r2 q1 => ?_
  have m := (sr.nxt n1).mut hi hp hs hH r2
  exact q1 _ rfl W1 _ σ m.1 m.2
theorem js_popToK {i j : Nat} {x y : Str} {k : IE} {ek : Expr} {p apos cpos pos py : Pos} (hi : i ∈ O) (hN : X.N[i]? = some x) (hv : Vis X.env.scope x) (hd : (x == ("__debug__" : Str)) = false) (hcd : (x == ("__classdict__" : Str)) = false)
    (hnd : X.N.Nodup) (hj : X.N[j]? = some y) (hy : Loc X.env.scope y) (hf : X.fn y = true ∨ X.env.scope.names.lookup y = some .local)
    (hline : (apos.endLine == cpos.line) = true) (h : JE X I (fun _ => E) O (kB I X.K) (fun ρ S => evE sg cf ρ k S) ek) (hst : starEach [ek] X.env = [(false, eval ek X.env)])
    (hfew : ((backTo cpos (starEach [ek] X.env)).all (fun x => !x.1) && (backToKw cpos (keywordEach [] X.env)).all (fun x => x.1.isSome) && decide ([ek].length + ([] : List Keyword).length + (if ([] : List Keyword).isEmpty then 0 else 1) < 30)) = true) :
    JS X I E W0 H0 fr OL O (some (less O [j])) (fun ρ S => evS sg cf (.popTo j i [k]) ρ S) (.Assign [.Name y py] (.Call (.Attribute (.Name x p) "pop" apos) [ek] [] cpos) pos) := by
  refine PS.imp (ps_set hnd hj hy (pe_bm PySem.F.plainAttrs_list PySem.F.slot_list_pop PySem.F.type_list_pop mt_popAt (pe_var hN hv hd hcd) (ja_consB h ja_nilB hst) rfl hfew hline hst rfl) rfl hf) fun D σ H ⟨W, ρ, S, sr, q⟩ => ?_
  simp only [evS] at q
  refine popK_rd (fun v l' S1 => .nx (setE (setE ρ i (.lst l')) j v) S1) (D := fun _ _ => D.rt) hi sr q fun v l' S1 W1 H1 a xs xs' y n1 hs hH ⟨l, hp⟩ r1 r2 q1 => ?_
  have m := (sr.nxt n1).mut hi hp hs hH r2
  exact q1 _ rfl W1 _ _ (m.1.set (RepV.mono m.2.kp (fun _ z => z) (fun _ _ z => z) _ _ r1)) m.2
/-- if -/
theorem js_ite {c : IE} {a b : List IS} {ec : Expr} {ea eb : List Stmt} {pos : Pos} (hc : JT X I (fun _ => E) O (fun ρ S => evT sg cf ρ c S) ec) (ha : JSs X I E W0 H0 fr OL O O' (fun ρ S => evSs sg cf a ρ S) ea) (hb : JSs X I E W0 H0 fr OL O O' (fun ρ S => evSs sg cf b ρ S) eb) :
    JS X I E W0 H0 fr OL O O' (fun ρ S => evS sg cf (.ite c a b) ρ S) (.If ec ea eb pos) := by
  refine PS.imp (ps_if hc ha hb) fun D σ H ⟨W, ρ, S, sr, q⟩ => ⟨W, ρ, S, sr.sr, ?_⟩
  simp only [evS] at q
  refine q.seq sr fun k S1 W1 H1 k' e1 n1 k1 q1 => ?_
  have k1 : k = k' := k1
  subst k1
  cases k with
  | true =>
    rw [if_pos rfl] at q1 ⊢
    exact ⟨W1, ρ, S1, sr.nxt n1, q1⟩
  | false =>
    rw [if_neg Bool.false_ne_true] at q1 ⊢
    exact ⟨W1, ρ, S1, sr.nxt n1, q1⟩
/-- for -/
theorem js_for {k : Nat} {its : List IE} {p : Pat} {b : List IS} {tg iter : Expr} {body : List Stmt} {pos : Pos} {O1 : List Nat} (hp : PassesOwn (model X.prog X.w) X.A X.env X.xe) (hc : X.calm = true) (hs : ∀ x, foldedSetIterable iter X.env x = pure x)
    (s1 : ∀ i ∈ O1, i ∈ O) (hi : JI X I (fun _ => E) O (evIt sg cf k its) tg iter) (hg : PG X tg (gP I X.K O1 p)) (hb : JSs X I E W0 H0 fr O1 (less O1 p.vars) (some O1) (fun ρ S => evSs sg cf b ρ S) body) :
    JS X I E W0 H0 fr OL O (some O1) (fun ρ S => evS sg cf (.forr k its p b) ρ S) (.For tg iter body [] pos) := by
  refine PS.imp (ps_for hp hc hi hg hb hs) fun D σ H ⟨W, ρ, S, sr, q⟩ => ⟨W, ρ, S, sr.sr, ?_⟩
  simp only [evS] at q
  have q : AtS I X.K E W0 H0 fr OL W H (some O1) D ((evIt sg cf k its ρ S).on ρ fun xs S1 => forGo (fun v ρ S => (match bindP p v ρ with
      | some ρ' => evSs sg cf b ρ' S
      | none => .bad)) xs ρ S1) := q
  refine q.seq sr fun xs S1 W1 H1 J e1 n1 wk q1 => ?_
  have w1 := n1.w
  generalize hf : (fun v ρ S => (match bindP p v ρ with
      | some ρ' => evSs sg cf b ρ' S
      | none => .bad)) = f at q1
  obtain ⟨W2, sr2, n2⟩ := (sr.nxt n1).weak s1
  refine ⟨fun i m σ H => ∃ Wc ρc Sc, m = xs.length - i ∧ i ≤ xs.length ∧ Sr0 I X.K W0 H0 Wc H O1 ρc σ Sc ∧ NxtR I X.K W1 H1 Wc H Sc ∧ AtS I X.K E W0 H0 fr OL Wc H (some O1) D (forGo f (xs.drop i) ρc Sc),
    ⟨xs.length, W2, ρ, S1, rfl, Nat.zero_le _, sr2, n2, by rw [List.drop_zero]; exact q1.shift n2⟩, ?_⟩
  rintro i m σc Hc ⟨Wc, ρc, Sc, rfl, hi, src, nc, qc⟩
  by_cases hlt : i < xs.length
  · refine .inr ?_
    obtain ⟨go, yld⟩ := (wk i Wc Hc Sc nc).1 xs[i] (by simp [hlt])
    have ed : xs.drop i = xs[i] :: xs.drop (i + 1) := List.drop_eq_getElem_cons hlt
    rw [ed] at qc
    unfold forGo at qc
    refine ⟨go, _, fun σ' H' hN => ⟨xs.length - (i + 1), by omega, hN⟩, fun x H3 hy => ?_⟩
    obtain ⟨W3, n3, r3⟩ := yld x H3 hy
    have sr3 := src.nxt n3
    cases e5 : bindP p xs[i] ρc with
    | none =>
      rw [← hf] at qc
      simp only [e5] at qc
      exact qc.elim
    | some ρ' =>
      have ef : f xs[i] ρc Sc = evSs sg cf b ρ' Sc := by
        rw [← hf]
        simp only [e5]
      rw [ef] at qc
      refine ⟨W3, ρc, Sc, xs[i], ρ', sr3.sr, r3, e5, fun W4 H4 σ4 n4 sr4 a4 => ?_⟩
      have n34 := n3.trans n4
      have sr5 := sr3.bound n4 e5 sr4 a4
      refine ⟨W4, ρ', Sc, sr5, ?_⟩
      have nr4 : NxtR I X.K W1 H1 W4 H4 Sc := nc.trans (n34.nr src.sr.w)
      show AtS I X.K E W0 H0 fr O1 W4 H4 (some O1) _ (evSs sg cf b ρ' Sc)
      cases e6 : evSs sg cf b ρ' Sc with
      | nx ρ2 S2 =>
        rw [e6] at qc
        intro O2 e2 W5 H5 σ5 s5 n5
        cases e2
        exact ⟨W5, ρ2, S2, rfl, hlt, s5, nr4.trans n5, qc.shift ((n34.nr src.sr.w).trans n5)⟩
      | ct ρ2 S2 =>
        rw [e6] at qc
        intro W5 H5 σ5 s5 n5
        exact ⟨W5, ρ2, S2, rfl, hlt, s5, nr4.trans n5, qc.shift ((n34.nr src.sr.w).trans n5)⟩
      | bk ρ2 S2 =>
        rw [e6] at qc
        intro W5 H5 σ5 s5 n5
        exact qc O1 rfl W5 H5 σ5 s5 ((n34.nr src.sr.w).trans n5)
      | rt v S2 => rw [e6] at qc; exact qc
      | ex y ρ2 S2 => rw [e6] at qc; exact qc
      | bad => rw [e6] at qc; exact qc
  · refine .inl ?_
    have ei : i = xs.length := by omega
    subst ei
    rw [List.drop_length] at qc
    simp only [forGo] at qc
    exact ⟨(wk _ Wc Hc Sc nc).2 (Nat.le_refl _), qc.nx src⟩
/-- while -/
theorem js_while {c : IE} {b : List IS} {ec : Expr} {body : List Stmt} {pos : Pos} {O1 : List Nat} (hp : PassesOwn (model X.prog X.w) X.A X.env X.xe) (s1 : ∀ i ∈ O1, i ∈ O)
    (hc : JT X I (fun _ => E) O1 (fun ρ S => evT sg cf ρ c S) ec) (hb : JSs X I E W0 H0 fr O1 O1 (some O1) (fun ρ S => evSs sg cf b ρ S) body) :
    JS X I E W0 H0 fr OL O (some O1) (fun ρ S => evS sg cf (.whil c b) ρ S) (.While ec body [] pos) := by
  refine PS.imp (ps_while hp hc hb) fun D σ H ⟨W, ρ, S, sr, q⟩ => ?_
  simp only [evS] at q
  obtain ⟨W2, sr2, n2⟩ := sr.weak s1
  have nb : whileM (fun ρ S => evT sg cf ρ c S) (fun ρ S => evSs sg cf b ρ S) ρ S ≠ .bad := fun z => by
    rw [z] at q
    exact q
  obtain ⟨n, hn⟩ := whileM_it nb
  generalize whileM (fun ρ S => evT sg cf ρ c S) (fun ρ S => evSs sg cf b ρ S) ρ S = o at q hn
  refine ⟨fun m σ H => ∃ Wc ρc Sc, whileIt (fun ρ S => evT sg cf ρ c S) (fun ρ S => evSs sg cf b ρ S) m ρc Sc = some o ∧ Sr0 I X.K W0 H0 Wc H O1 ρc σ Sc ∧ AtS I X.K E W0 H0 fr OL Wc H (some O1) D o,
    ⟨n, W2, ρ, S, hn, sr2, q.shift n2⟩, ?_⟩
  rintro m σc Hc ⟨Wc, ρc, Sc, ec, src, qc⟩
  cases m with
  | zero => simp [whileIt] at ec
  | succ m =>
    unfold whileIt at ec
    refine ⟨Wc, ρc, Sc, src.sr, ?_⟩
    show At I X.K E kT Wc Hc (evT sg cf ρc c Sc) _
    cases e1 : evT sg cf ρc c Sc with
    | bad =>
      simp only [e1] at ec
      cases ec
      exact qc
    | exc y S1 =>
      simp only [e1] at ec
      cases ec
      exact fun W' H' cls d n x => qc W' H' cls d (src.n0 n) x
    | ok k S1 =>
      simp only [e1] at ec
      intro W1 H1 k' n1 k1
      have k1 : k = k' := k1
      subst k1
      cases k with
      | false =>
        rw [if_neg Bool.false_ne_true]
        simp only at ec
        cases ec
        exact qc O1 rfl W1 H1 σc (src.nxt n1) (n1.nr src.sr.w)
      | true =>
        rw [if_pos rfl]
        simp only at ec
        refine ⟨_, fun σ' H' hN => ⟨m, Nat.lt_succ_self _, hN⟩, W1, ρc, S1, src.nxt n1, ?_⟩
        show AtS I X.K E W0 H0 fr O1 W1 H1 (some O1) _ (evSs sg cf b ρc S1)
        have qs := qc.shift (n1.nr src.sr.w)
        cases e6 : evSs sg cf b ρc S1 with
        | nx ρ2 S2 =>
          simp only [e6] at ec
          intro O2 e2 W5 H5 σ5 s5 n5
          cases e2
          exact ⟨W5, ρ2, S2, ec, s5, qs.shift n5⟩
        | ct ρ2 S2 =>
          simp only [e6] at ec
          intro W5 H5 σ5 s5 n5
          exact ⟨W5, ρ2, S2, ec, s5, qs.shift n5⟩
        | bk ρ2 S2 =>
          simp only [e6] at ec
          cases ec
          intro W5 H5 σ5 s5 n5
          exact qs O1 rfl W5 H5 σ5 s5 n5
        | rt v S2 =>
          simp only [e6] at ec
          cases ec
          exact qs
        | ex y ρ2 S2 =>
          simp only [e6] at ec
          cases ec
          exact qs
        | bad =>
          simp only [e6] at ec
          cases ec
          exact qs
end
end Pi

end
section
set_option linter.all false
set_option maxRecDepth 100000
/-! PiK: stores into lists, names in parallel, calls, isinstance, tables. -/
namespace Pi
open PySem PySem.Spec PyProof.Rows L2

section
variable {X : Cx} {I : XI} {E : XK} {W0 : Wd} {H0 : Hp} {fr : Bool} {OL : List Nat} {O : List Nat} {O' : Option (List Nat)} {sg : Sig} {cf : String → List Val → Store → Res Val}
theorem set_rep {W : Wd} {H : Hp} {l : List Val} {xs : List V} {j : Int} {n : Nat} {v : Val} {y : V} (r : Rps I X.K W H l xs) (ry : Rp I X.K W H v y) (e : Pi.ixN l.length j = some n) : L2.ixN xs.length j = some n ∧ Rps I X.K W H (l.set n v) (xs.set n y) :=
  ⟨by rw [← RepVs.length r]; exact e, RepVs.set ry n r⟩
theorem sub_side {o i : Expr} {pos : Pos} (hi : ∀ l u p, i ≠ .Slice l u none p) (env : PySem.Env) (v : Value) : PySem.assign (.Subscript o i pos) env v = (do
      let ov ← holding [v] (eval o env)
      let iv ← holding [v, ov] (eval i env)
      standAt pos
      holding [v, ov, iv] (setItem ov iv v)
      release [v, ov, iv] []) := by
  cases i <;> first | rfl | skip
  rename_i l u st p
  cases st with
  | none => exact absurd rfl (hi l u p)
  | some s => rfl
theorem swaps_sub {o i ee : Expr} {p : Pos} {n : Nat} {env : PySem.Env} : swapsWithSole [.Subscript o i p] ee n env = pure false := by
  cases ee <;> rfl
/-- x[k] = e, x one's own list -/
theorem js_setL {i : Nat} {x : Str} {k e : IE} {ek ee : Expr} {p sp pos : Pos} (hi : i ∈ O) (hN : X.N[i]? = some x) (hv : Vis X.env.scope x) (hd : (x == ("__debug__" : Str)) = false) (hcd : (x == ("__classdict__" : Str)) = false)
    (hsl : ∀ l u p, ek ≠ .Slice l u none p) (he : JE X I (fun _ => E) O (kS I X.K) (fun ρ S => evE sg cf ρ e S) ee) (hk : JE X I (fun _ => E) O (kB I X.K) (fun ρ S => evE sg cf ρ k S) ek) :
    JS X I E W0 H0 fr OL O (some O) (fun ρ S => evS sg cf (.setL i k e) ρ S) (.Assign [.Subscript (.Name x p) ek sp] ee pos) := by
  refine PS.imp (ps_asg he (pg_sub (pe_var hN hv hd hcd) hk set_list (fun v => sub_side hsl X.env v)) swaps_sub rfl rfl) fun D σ H ⟨W, ρ, S, sr, q⟩ => ?_
  simp only [evS] at q
  cases e0 : lstE ρ i with
  | none => rw [e0] at q; exact q.elim
  | some l =>
    rw [e0] at q
    refine ⟨W, ρ, S, sr.sr, q.seq sr fun v S1 W1 H1 y e1 n1 k1 q1 => ?_⟩
    have sr1 := sr.nxt n1
    obtain ⟨hp, a, xs, hs, hH, rx⟩ := own_at sr1.sr hi e0
    refine ⟨.ref a, hs, W1, ρ, S1, sr1.sr, q1.seq sr1 fun j S2 W2 H2 z e2 n2 k2 q2 => ?_⟩
    cases j <;> try (exact q2.elim)
    rename_i j
    cases k2
    cases e3 : Pi.ixN l.length j with
    | none => simp only [e3] at q2; exact q2.elim
    | some n =>
      simp only [e3] at q2
      have sr2 := sr1.nxt n2
      obtain ⟨_, a', xs', hs', hH', rx'⟩ := own_at sr2.sr hi e0
      rw [hs] at hs'
      cases hs'
      obtain ⟨g1, g2⟩ := set_rep rx' (Rp.up n2.le n2.kp n1.w k1) e3
      have m := sr2.mut hi hp hs hH' g2
      exact ⟨a, xs', j, n, rfl, rfl, hH', g1, q2 _ rfl W2 _ σ m.1 m.2⟩
/-- b[k] = e, b of the store -/
theorem js_setB {b k e : IE} {eb ek ee : Expr} {sp pos : Pos} (hsl : ∀ l u p, ek ≠ .Slice l u none p) (he : JE X I (fun _ => E) O (kS I X.K) (fun ρ S => evE sg cf ρ e S) ee)
    (hb : JE X I (fun _ => E) O (kS I X.K) (fun ρ S => evE sg cf ρ b S) eb) (hk : JE X I (fun _ => E) O (kB I X.K) (fun ρ S => evE sg cf ρ k S) ek) :
    JS X I E W0 H0 fr OL O (some O) (fun ρ S => evS sg cf (.setB b k e) ρ S) (.Assign [.Subscript eb ek sp] ee pos) := by
  refine PS.imp (ps_asg he (pg_sub hb hk set_list (fun v => sub_side hsl X.env v)) swaps_sub rfl rfl) fun D σ H ⟨W, ρ, S, sr, q⟩ => ?_
  simp only [evS] at q
  refine ⟨W, ρ, S, sr.sr, q.seq sr fun v S1 W1 H1 y e1 n1 k1 q1 => ?_⟩
  have sr1 := sr.nxt n1
  refine ⟨W1, ρ, S1, sr1.sr, q1.seq sr1 fun x S2 W2 H2 z e2 n2 k2 q2 => ?_⟩
  have sr2 := sr1.nxt n2
  refine ⟨W2, ρ, S2, sr2.sr, q2.seq sr2 fun j S3 W3 H3 z3 e3 n3 k3 q3 => ?_⟩
  have sr3 := sr2.nxt n3
  cases x <;> try (exact q3.elim)
  cases j <;> try (exact q3.elim)
  rename_i n j
  cases k3
  have k2 := Rp.up n3.le n3.kp n2.w k2
  have k1 := Rp.up n3.le n3.kp n2.w (Rp.up n2.le n2.kp n1.w k1)
  obtain ⟨a, rfl, ha⟩ := k2
  cases e4 : S3[n]? with
  | none => simp only [e4] at q3; exact q3.elim
  | some ob =>
    cases ob with
    | ro l => simp only [e4] at q3; exact q3.elim
    | ins c fs => simp only [e4] at q3; exact q3.elim
    | lst l =>
      simp only [e4] at q3
      cases e5 : Pi.ixN l.length j with
      | none => simp only [e5] at q3; exact q3.elim
      | some m =>
        simp only [e5] at q3
        obtain ⟨a', ha', xs, hH, rx⟩ := n3.s.ob n _ e4
        rw [ha] at ha'
        cases ha'
        obtain ⟨g1, g2⟩ := set_rep rx k1 e5
        refine ⟨a, xs, j, m, rfl, rfl, hH, g1, ?_⟩
        have aμ : a ∈ W3.μ := List.mem_of_getElem? ha
        have nP := (n3.w.mp a aμ).1
        have kp : Kp W3.P H3 (upd H3 a (.lst (xs.set m y))) := Kp.set hH nP
        have kpR := kp.mono n3.w.rp
        have w' := wok_own (ys := xs.set m y) n3.w hH
        have s' : StRep I X.K W3 (upd H3 a (.lst (xs.set m y))) (S3.set n (.lst (l.set m v))) := by
          refine ⟨by rw [List.length_set]; exact n3.s.len, fun t o e => ?_⟩
          have up : ∀ {p : List Val} {v : List V}, Rps I X.K W3 H3 p v → Rps I X.K W3 (upd H3 a (.lst (xs.set m y))) p v := fun {p v} z => RepVs.mono kpR (fun _ z => z) (fun _ _ z => z) p v z
          by_cases ht : n = t
          · subst ht
            rw [List.getElem?_set_self (List.getElem?_eq_some_iff.mp e4).1] at e
            cases e
            exact ⟨a, ha, _, upd_same, up g2⟩
          · rw [List.getElem?_set_ne ht] at e
            obtain ⟨b, h1, h2⟩ := n3.s.ob t o e
            have hb : b ≠ a := fun z => by
              subst z
              obtain ⟨i1, g1⟩ := List.getElem?_eq_some_iff.mp h1
              obtain ⟨i2, g2⟩ := List.getElem?_eq_some_iff.mp ha
              exact ht ((List.getElem_inj n3.w.nd).mp (g2.trans g1.symm))
            have eb : upd H3 a (.lst (xs.set m y)) b = H3 b := upd_ne hb
            refine ⟨b, h1, ?_⟩
            cases o with
            | lst l2 =>
              obtain ⟨zs, h3, h4⟩ := h2
              exact ⟨zs, eb.trans h3, up h4⟩
            | ro l2 =>
              obtain ⟨zs, h3, h4⟩ := h2
              refine ⟨zs, ?_, up h4⟩
              rcases h3 with (h3 | ⟨o, h3⟩) | h3
              · exact .inl (.inl (eb.trans h3))
              · exact .inl (.inr ⟨o, eb.trans h3⟩)
              · exact .inr h3
            | ins c fs => exact h2.elim
        have nn : Nxt I X.K W3 H3 W3 (upd H3 a (.lst (xs.set m y))) (S3.set n (.lst (l.set m v))) := ⟨.refl, kp, w', s'⟩
        exact q3 _ rfl W3 _ σ (sr3.nxt nn) (nn.nr n3.w)

theorem At.weakQ {α β : Type} {K : PySem.W.Frag} {kd : Kd α β} {W : Wd} {H : Hp} {r : Res α} {Q Q' : β → Hp → Prop} (h : At I K E kd W H r Q) (f : ∀ x H1, Q x H1 → Q' x H1) : At I K E kd W H r Q' := by
  cases r with
  | ok v S' => exact fun W' H' x n k => f _ _ (h W' H' x n k)
  | exc y S' => exact h
  | bad => exact h
/-! ### names in parallel -/
/-- what comes for each: what is fresh, or what is shared -/
def MRep (I : XI) (K : PySem.W.Frag) (W W' : Wd) (H' : Hp) : List Bool → List Val → List V → Prop
  | [], vs, xs => vs = [] ∧ xs = []
  | m :: ms, vs, xs => ∃ v vs' x xs', vs = v :: vs' ∧ xs = x :: xs' ∧ (if m then KF I K W' H' W v x ∧ ∀ (a : Addr) (l l' : List Val) (j : Nat), v = .lst l → x = .ref a → ms[j]? = some true → vs'[j]? = some (.lst l') → xs'[j]? ≠ some (.ref a) else Rp I K W' H' v x) ∧ MRep I K W W' H' ms vs' xs'
def kM (I : XI) (K : PySem.W.Frag) (ms : List Bool) : Kd (List Val) (List V) := fun W W' H' vs xs => MRep I K W W' H' ms vs xs
theorem MRep.anti {K : PySem.W.Frag} {W W1 W' : Wd} {H' : Hp} (le : W.le W1) : ∀ {ms : List Bool} {vs : List Val} {xs : List V}, MRep I K W1 W' H' ms vs xs → MRep I K W W' H' ms vs xs
  | [], _, _, h => h
  | m :: ms, _, _, h => by
    obtain ⟨v, vs, x, xs, rfl, rfl, h1, h2⟩ := h
    refine ⟨v, vs, x, xs, rfl, rfl, ?_, h2.anti le⟩
    cases m with
    | true => exact ⟨kF_anti I K W W1 W' H' v x le h1.1, h1.2⟩
    | false => exact h1
theorem kM_anti {K : PySem.W.Frag} {ms : List Bool} : Anti (kM I K ms) := fun _ _ _ _ _ _ le h => MRep.anti le h
theorem MRep.fresh {K : PySem.W.Frag} {W W' : Wd} {H' : Hp} : ∀ {ms : List Bool} {vs : List Val} {xs : List V} {j : Nat} {a : Addr} {l : List Val}, MRep I K W W' H' ms vs xs → ms[j]? = some true → vs[j]? = some (.lst l) → xs[j]? = some (.ref a) → ¬ W.P a
  | [], _, _, _, _, _, _, e, _, _ => by simp at e
  | m :: ms, _, _, 0, a, l, h, e, e1, e2 => by
    obtain ⟨v, vs, x, xs, rfl, rfl, h1, h2⟩ := h
    have e : m = true := by simpa using e
    subst e
    have e1 : v = .lst l := by simpa using e1
    subst e1
    obtain ⟨b, e3, _, n⟩ := h1.1
    have e2 : x = .ref a := by simpa using e2
    rw [e3] at e2
    cases e2
    exact n
  | m :: ms, _, _, j + 1, a, l, h, e, e1, e2 => by
    obtain ⟨v, vs, x, xs, rfl, rfl, h1, h2⟩ := h
    exact h2.fresh (j := j) (by simpa using e) (by simpa using e1) (by simpa using e2)
theorem ja_nilM {E : L2.St → XK} : JA X I E O (kM I X.K []) (fun ρ S => evEs sg cf ρ [] S) [] :=
  PA.imp pa_nil fun σ H Q ⟨W, ρ, S, sr, q⟩ => by
    simp only [evEs] at q
    exact q.here sr.w sr.s ⟨rfl, rfl⟩
theorem ja_consM {E : L2.St → XK} {m : Bool} {ms : List Bool} {a : IE} {r : List IE} {ea : Expr} {er : List Expr} (ha : JE X I E O (if m then kF I X.K else kS I X.K) (fun ρ S => evE sg cf ρ a S) ea) (hr : JA X I E O (kM I X.K ms) (fun ρ S => evEs sg cf ρ r S) er)
    (hs : starEach (ea :: er) X.env = (false, eval ea X.env) :: starEach er X.env) : JA X I E O (kM I X.K (m :: ms)) (fun ρ S => evEs sg cf ρ (a :: r) S) (ea :: er) := by
  refine PA.imp (pa_cons ha hr hs) fun σ H Q ⟨W, ρ, S, sr, q⟩ => ⟨W, ρ, S, sr, ?_⟩
  simp only [evEs] at q
  show At I X.K (E σ) (if m then kF I X.K else kS I X.K) W H (evE sg cf ρ a S) _
  cases e1 : evE sg cf ρ a S with
  | bad => rw [e1] at q; exact q
  | exc y S1 => rw [e1] at q; exact q
  | ok x S1 =>
    rw [e1] at q
    simp only [Res.bind_ok] at q
    have go : ∀ W1 H1 xv, Nxt I X.K W H W1 H1 S1 → (if m then KF I X.K W1 H1 W x xv else Rp I X.K W1 H1 x xv) → rd I X.K E O (kM I X.K ms) (fun ρ S => evEs sg cf ρ r S) σ H1 (fun xs H2 => Q (xv :: xs) H2) := fun W1 H1 xv n1 k1 => by
      refine ⟨W1, ρ, S1, sr.nxt n1, ?_⟩
      show At I X.K (E σ) (kM I X.K ms) W1 H1 (evEs sg cf ρ r S1) _
      cases e2 : evEs sg cf ρ r S1 with
      | bad => rw [e2] at q; exact q
      | exc y S2 =>
        rw [e2] at q
        exact fun W' H' cls d n k => q W' H' cls d (n1.trans n) k
      | ok ys S2 =>
        rw [e2] at q
        simp only [Res.bind_ok] at q
        intro W2 H2 yv n2 k2
        refine q W2 H2 (xv :: yv) (n1.trans n2) ⟨x, ys, xv, yv, rfl, rfl, ?_, k2.anti n1.le⟩
        cases m with
        | false => exact Rp.up n2.le n2.kp n1.w k1
        | true =>
          have k1 : KF I X.K W1 H1 W x xv := k1
          constructor
          · cases x with
            | lst l =>
              obtain ⟨b, e, o, n⟩ := k1
              exact ⟨b, e, o.up n2.le n2.kp n1.w, n⟩
            | _ => exact Rp.up n2.le n2.kp n1.w k1
          · intro b l l' j ev ex ej ey z
            subst ev
            obtain ⟨b', e, o, n⟩ := k1
            rw [ex] at e
            cases e
            exact k2.fresh ej ey z o.1
    cases m with
    | true => exact fun W1 H1 xv n1 k1 => go W1 H1 xv n1 k1
    | false => exact fun W1 H1 xv n1 k1 => go W1 H1 xv n1 k1
/-- the names are set, one by one -/
def setsP : List (Nat × Bool) → List V → L2.St → L2.St
  | (i, _) :: is, x :: xs, σ => setsP is xs (σ.set i (some x))
  | _, _, σ => σ
def parO (O : List Nat) : List (Nat × Bool) → List Nat
  | [] => O
  | (i, false) :: is => parO (less O [i]) is
  | (i, true) :: is => parO (i :: less O [i]) is
theorem par_set {W W' : Wd} {H' : Hp} {S' : Store} : ∀ {is : List (Nat × Bool)} {O : List Nat} {vs : List Val} {xs : List V} {ρ ρ' : Env} {σ : L2.St}, W0.le W → Sr0 I X.K W0 H0 W' H' O ρ σ S' → MRep I X.K W W' H' (is.map (·.2)) vs xs → parE is vs ρ = some ρ' →
    (∀ (j : Nat) (a : Addr) (k : Nat) (l : List Val), (is.map (·.2))[j]? = some true → vs[j]? = some (.lst l) → xs[j]? = some (.ref a) → k ∈ O → σ[k]? = some (some (V.ref a)) → (∃ p, ρ[k]? = some (some p)) → False) → Sr0 I X.K W0 H0 W' H' (parO O is) ρ' (setsP is xs σ) S'
  | [], O, vs, xs, ρ, ρ', σ, _, sr, m, e, _ => by
    obtain ⟨rfl, rfl⟩ := m
    cases e
    exact sr
  | (i, false) :: is, O, vs, xs, ρ, ρ', σ, le, sr, m, e, d => by
    obtain ⟨v, vs', x, xs', rfl, rfl, h1, h2⟩ := m
    refine par_set (is := is) le (sr.set h1) h2 (by cases v <;> exact e) fun j a k l ej ev ex hk hs hp => ?_
    obtain ⟨g1, g2⟩ := mem_less.mp hk
    have ik : i ≠ k := fun z => g2 (by simp [z])
    rw [List.getElem?_set_ne ik] at hs
    rw [setE_ne ik] at hp
    exact d (j + 1) a k l (by simpa using ej) (by simpa using ev) (by simpa using ex) g1 hs hp
  | (i, true) :: is, O, vs, xs, ρ, ρ', σ, le, sr, m, e, d => by
    obtain ⟨v, vs', x, xs', rfl, rfl, h1, h2⟩ := m
    cases v <;> try (cases e; done)
    rename_i l
    obtain ⟨⟨a, rfl, o, n⟩, dd⟩ := h1
    have nx := fun z => n (le.p a z)
    refine par_set (is := is) le (sr.setOwn o nx fun j hj _ hs hp => d 0 a j l rfl rfl rfl hj hs hp) h2 e fun j b k l' ej ev ex hk hs hp => ?_
    by_cases ik : i = k
    · subst ik
      have hl : i < σ.length := by
        have := (List.getElem?_eq_some_iff.mp hs).1
        rw [List.length_set] at this
        exact this
      rw [List.getElem?_set_self hl] at hs
      cases hs
      exact dd a l l' j rfl rfl ej ev ex
    · rw [List.getElem?_set_ne ik] at hs
      rw [setE_ne ik] at hp
      rcases List.mem_cons.mp hk with hk | hk
      · exact ik hk.symm
      · exact d (j + 1) b k l' (by simpa using ej) (by simpa using ev) (by simpa using ex) (mem_less.mp hk).1 hs hp
theorem par_rd {is : List (Nat × Bool)} {es : List IE} {D : Ends} {σ : L2.St} {H : Hp} (h : rdS I X.K E W0 H0 fr OL O (some (parO O is)) (fun ρ S => evS sg cf (.par is es) ρ S) D σ H) :
    rd I X.K (fun _ => E) O (kM I X.K (is.map (·.2))) (fun ρ S => evEs sg cf ρ es S) σ H (fun xs H1 => xs.length = is.length ∧ D.nx (setsP is xs σ) H1) := by
  obtain ⟨W, ρ, S, sr, q⟩ := h
  simp only [evS] at q
  refine ⟨W, ρ, S, sr.sr, ?_⟩
  show At I X.K E (kM I X.K (is.map (·.2))) W H (evEs sg cf ρ es S) _
  cases e1 : evEs sg cf ρ es S with
  | bad => rw [e1] at q; exact q
  | exc y S1 =>
    rw [e1] at q
    exact fun W' H' cls d n k => q W' H' cls d (sr.n0 n) k
  | ok vs S1 =>
    rw [e1] at q
    simp only [Res.on_ok] at q
    intro W1 H1 xs n1 k1
    cases e2 : parE is vs ρ with
    | none => rw [e2] at q; exact q.elim
    | some ρ' =>
      rw [e2] at q
      have sr1 := sr.nxt n1
      have ln : ∀ {ms : List Bool} {vs : List Val} {xs : List V}, MRep I X.K W W1 H1 ms vs xs → xs.length = ms.length := by
        intro ms
        induction ms with
        | nil =>
          rintro vs xs ⟨_, rfl⟩
          rfl
        | cons m ms ih =>
          rintro vs xs ⟨v, vs', x, xs', rfl, rfl, _, h2⟩
          rw [List.length_cons, List.length_cons, ih h2]
      refine ⟨by rw [ln k1, List.length_map], q _ rfl W1 H1 _ (par_set sr.le sr1 k1 e2 fun j a k l ej ev ex hk hs hp => ?_) (n1.nr sr.sr.w)⟩
      have f := MRep.fresh k1 ej ev ex
      obtain ⟨p, hp⟩ := hp
      obtain ⟨l2, b, _, h4, h5⟩ := sr.sr.e.ow k p hp hk
      rw [hs] at h4
      cases h4
      exact f h5.1
theorem js_par2 {i j : Nat} {mi mj : Bool} {x y : Str} {a b : IE} {ea eb : Expr} {px py pt pos pt2 : Pos} {kt k2 : Nat} (hc : X.calm = true) (hN : X.N.Nodup) (hi : X.N[i]? = some x) (hj : X.N[j]? = some y) (hij : i ≠ j)
    (hx : X.env.scope.names.lookup x = some .local) (hy : X.env.scope.names.lookup y = some .local) (h : JA X I (fun _ => E) O (kM I X.K [mi, mj]) (fun ρ S => evEs sg cf ρ [a, b] S) [ea, eb])
    (hw : swappedStores [.Tuple [.Name x px, .Name y py] kt pt] (.Tuple [ea, eb] k2 pt2) X.env = pure (some [x, y])) :
    JS X I E W0 H0 fr OL O (some (parO O [(i, mi), (j, mj)])) (fun ρ S => evS sg cf (.par [(i, mi), (j, mj)] [a, b]) ρ S) (.Assign [.Tuple [.Name x px, .Name y py] kt pt] (.Tuple [ea, eb] k2 pt2) pos) := by
  refine PS.imp (ps_par hc hN hi hj hij hx hy h hw rfl) fun D σ H hh => ?_
  obtain ⟨W, ρ, S, sr, q⟩ := par_rd hh
  refine ⟨W, ρ, S, sr, At.weakQ q fun xs H1 ⟨hl, hn⟩ => ?_⟩
  match xs, hl with
  | [u, v], _ => exact ⟨u, v, rfl, hn⟩
theorem js_par3 {i j l : Nat} {mi mj ml : Bool} {x y z : Str} {a b c : IE} {ea eb ec : Expr} {px py pz pt pos pt2 : Pos} {kt k2 : Nat} (hc : X.calm = true) (hN : X.N.Nodup) (hi : X.N[i]? = some x) (hj : X.N[j]? = some y) (hl : X.N[l]? = some z) (hij : i ≠ j) (hil : i ≠ l) (hjl : j ≠ l)
    (hx : X.env.scope.names.lookup x = some .local) (hy : X.env.scope.names.lookup y = some .local) (hz : X.env.scope.names.lookup z = some .local) (h : JA X I (fun _ => E) O (kM I X.K [mi, mj, ml]) (fun ρ S => evEs sg cf ρ [a, b, c] S) [ea, eb, ec])
    (hw : swappedStores [.Tuple [.Name x px, .Name y py, .Name z pz] kt pt] (.Tuple [ea, eb, ec] k2 pt2) X.env = pure (some [x, y, z])) :
    JS X I E W0 H0 fr OL O (some (parO O [(i, mi), (j, mj), (l, ml)])) (fun ρ S => evS sg cf (.par [(i, mi), (j, mj), (l, ml)] [a, b, c]) ρ S) (.Assign [.Tuple [.Name x px, .Name y py, .Name z pz] kt pt] (.Tuple [ea, eb, ec] k2 pt2) pos) := by
  refine PS.imp (ps_par3 hc hN hi hj hl hij hil hjl hx hy hz h hw rfl) fun D σ H hh => ?_
  obtain ⟨W, ρ, S, sr, q⟩ := par_rd hh
  refine ⟨W, ρ, S, sr, At.weakQ q fun xs H1 ⟨hl, hn⟩ => ?_⟩
  match xs, hl with
  | [u, v, w], _ => exact ⟨u, v, w, rfl, hn⟩

/-! ### calls -/
/-- what a def promises, by what it comes to -/
def spC (I : XI) (K : PySem.W.Frag) (cf : String → List Val → Store → Res Val) (f : String) (n : Nat) (fr : Bool) : Sp := fun vs H Q E => ∃ W ps S, WOk W H ∧ StRep I K W H S ∧ Rps I K W H ps vs ∧ ps.length = n ∧ At I K E (kFS I K fr) W H (cf f ps S) Q
/-- a call may be made here -/
structure CanCall (X : Cx) (I : XI) (cf : String → List Val → Store → Res Val) (x : Str) (f : String) (n : Nat) (fr : Bool) : Prop where
  ex : ∃ (k : Nat) (a : Addr) (fd : FuncData) (ps : List Str), FnG X.prog X.w X.K X.mg X.base (L2.CX X.prog X.w) k a fd ps (spC I X.K cf f n fr) ∧ (Quiet X.A ∧ Room k X.A) ∧ X.mg x = some (.ref a) ∧ PySem.W.keepIn X.K (.ref a) = true ∧ Binds X.K fd ps []
theorem call_rd {E : L2.St → XK} {f : String} {es : List IE} {n : Nat} {b : Bool} {σ : L2.St} {H : Hp} {Q : VK} (hn : es.length = n) (h : rd I X.K E O (kFS I X.K b) (fun ρ S => evE sg cf ρ (.call f es) S) σ H Q) :
    rd I X.K E O (kSs I X.K) (fun ρ S => evEs sg cf ρ es S) σ H fun vs H1 => spC I X.K cf f n b vs H1 Q (E σ) := by
  obtain ⟨W, ρ, S, sr, q⟩ := h
  refine ⟨W, ρ, S, sr, ?_⟩
  simp only [evE] at q
  refine q.seq kFS_anti fun vs S1 W1 H1 xs e1 n1 k1 q1 => ?_
  exact ⟨W1, vs, S1, n1.w, n1.s, k1, by rw [evEs_len ρ e1]; exact hn, q1⟩
theorem j_call {E : L2.St → XK} {x : Str} {f : String} {es : List IE} {ea : Expr} {er : List Expr} {b : Bool} {p pos : Pos} (c : CanCall X I cf x f es.length b) (hx : ∀ σ, PassesAt (L2.CX X.prog X.w) X σ (E σ)) (hg : Gl X x) (hd : (x == ("__debug__" : Str)) = false)
    (h : JA X I E O (kSs I X.K) (fun ρ S => evEs sg cf ρ es S) (ea :: er)) (he : starEach (ea :: er) X.env = (false, eval ea X.env) :: starEach er X.env) (hpl : (backTo pos (starEach er X.env)).any (·.1) = false) :
    JE X I E O (kFS I X.K b) (fun ρ S => evE sg cf ρ (.call f es) S) (.Call (.Name x p) (ea :: er) [] pos) := by
  obtain ⟨k, a, fd, ps, F, ⟨hq, hr⟩, hm, hk, hb⟩ := c.ex
  exact PE.imp (pe_callG F hq hr hg hm hk hb hx h hd he hpl) fun σ H Q q => call_rd rfl q
theorem j_call0 {E : L2.St → XK} {x : Str} {f : String} {b : Bool} {p pos : Pos} (c : CanCall X I cf x f 0 b) (hx : ∀ σ, PassesAt (L2.CX X.prog X.w) X σ (E σ)) (hg : Gl X x) (hd : (x == ("__debug__" : Str)) = false) : JE X I E O (kFS I X.K b) (fun ρ S => evE sg cf ρ (.call f []) S) (.Call (.Name x p) [] [] pos) := by
  obtain ⟨k, a, fd, ps, F, ⟨hq', hr⟩, hm, hk, hb⟩ := c.ex
  refine ⟨fun pins s σ H Q J q => ?_⟩
  obtain ⟨W, ρ, S, sr, q⟩ := q
  simp only [evE, evEs, Res.bind_ok] at q
  refine wpAny_Call_Name_kw (ld_glob J hg hm ?_ hd)
  exact PySem.W.callWith_K0 J.kIn hk (run_fnG (us := []) F hq' hr hb (hx σ) J .nil ⟨W, [], S, sr.w, sr.s, rfl, rfl, q⟩)

/-! ### isinstance -/
def tyV : Val → String
  | .non => "NoneType" | .bl _ => "bool" | .int _ => "int" | .str _ => "str" | .tup _ => "tuple" | .lst _ => "list" | _ => ""
def tyN : Ty → Option String
  | .int => some "int" | .bool => some "bool" | .str => some "str" | .lst => some "list" | .tup => some "tuple" | .exc _ => none
/-- neither an exception nor a dict -/
abbrev PlainV (v : Val) : Prop := (∀ c y, v ≠ .exn c y) ∧ ∀ ks vs, v ≠ .dct ks vs
theorem TyOfV {W : Wd} {H : Hp} {v : Val} {x : V} (h : KB I X.K W H v x) (n1 : ∀ n, v ≠ .loc n) (n2 : PlainV v) : TyX X.K H x (.type (tyV v)) := by
  cases v with
  | non => cases h; exact .base .non
  | bl b => cases h; exact .base (.bl b)
  | int i => cases h; exact .base (.int i)
  | str y => obtain ⟨rfl, _⟩ := h; exact .base (.str y)
  | tup l =>
    obtain ⟨a, xs, rfl, h1, h2⟩ := h
    rcases h1 with (h1 | ⟨o, h1⟩) | ⟨o, its, n, h1, h2, _⟩
    · exact .base (.tup h1)
    · exact .fTuple h1
    · exact .kTuple h1 h2
  | lst l =>
    obtain ⟨a, xs, rfl, h1, h2⟩ := h
    exact .base (.lst h1.2)
  | loc n => exact absurd rfl (n1 n)
  | exn c y => exact absurd rfl (n2.1 c y)
  | dct ks vs => exact absurd rfl (n2.2 ks vs)
theorem isa_kit {eb : String → Option String} {K : PySem.W.Frag} {t : Ty} {n : String} {v : Val} {b : Bool} (ht : tyN t = some n) (h : isaV eb t v = some b) : (∀ n, v ≠ .loc n) ∧ PlainV v ∧ PySem.W.kitOne K (.type (tyV v)) (.type n) = some b := by
  cases v with
  | loc m => cases t <;> cases h
  | exn c y => cases t <;> first | (cases h; done) | (cases ht; done)
  | dct c y => cases t <;> first | (cases h; done) | (cases ht; done)
  | non => exact ⟨(fun _ z => by cases z), ⟨(fun _ _ z => by cases z), (fun _ _ z => by cases z)⟩, kit_ty (by cases t <;> cases ht <;> cases h <;> simp only [tyV] <;> decide +kernel)⟩
  | bl y => exact ⟨(fun _ z => by cases z), ⟨(fun _ _ z => by cases z), (fun _ _ z => by cases z)⟩, kit_ty (by cases t <;> cases ht <;> cases h <;> simp only [tyV] <;> decide +kernel)⟩
  | int y => exact ⟨(fun _ z => by cases z), ⟨(fun _ _ z => by cases z), (fun _ _ z => by cases z)⟩, kit_ty (by cases t <;> cases ht <;> cases h <;> simp only [tyV] <;> decide +kernel)⟩
  | str y => exact ⟨(fun _ z => by cases z), ⟨(fun _ _ z => by cases z), (fun _ _ z => by cases z)⟩, kit_ty (by cases t <;> cases ht <;> cases h <;> simp only [tyV] <;> decide +kernel)⟩
  | tup y => exact ⟨(fun _ z => by cases z), ⟨(fun _ _ z => by cases z), (fun _ _ z => by cases z)⟩, kit_ty (by cases t <;> cases ht <;> cases h <;> simp only [tyV] <;> decide +kernel)⟩
  | lst y => exact ⟨(fun _ z => by cases z), ⟨(fun _ _ z => by cases z), (fun _ _ z => by cases z)⟩, kit_ty (by cases t <;> cases ht <;> cases h <;> simp only [tyV] <;> decide +kernel)⟩
theorem isas_kit {eb : String → Option String} {K : PySem.W.Frag} : ∀ {ts : List Ty} {ns : List String} {v : Val} {b : Bool}, ts.map tyN = ns.map some → isasV eb v ts = some b → ts ≠ [] → (∀ n, v ≠ .loc n) ∧ PlainV v ∧ PySem.W.kitAny K (.type (tyV v)) (ns.map .type) = some b
  | [], _, _, _, _, _, h => absurd rfl h
  | t :: ts, [], _, _, h, _, _ => by cases h
  | t :: ts, n :: ns, v, b, h, e, _ => by
    rw [List.map_cons, List.map_cons, List.cons.injEq] at h
    unfold isasV at e
    cases e1 : isaV eb t v with
    | none => rw [e1] at e; cases e
    | some c =>
      obtain ⟨g1, g2, g3⟩ := isa_kit (K := K) h.1 e1
      refine ⟨g1, g2, ?_⟩
      rw [e1] at e
      refine kitAny_cons g3 (fun hc => ?_) fun hc => ?_
      · subst hc
        cases ts with
        | nil =>
          cases ns with
          | nil => cases e; rfl
          | cons _ _ => cases h.2
        | cons t' ts' => exact (isas_kit (K := K) h.2 e (by simp)).2.2
      · subst hc
        cases e
        rfl
end
end Pi

end
section
set_option linter.all false
set_option maxRecDepth 100000
/-! PiL: isinstance, comprehensions, joins, tables, stars. -/
namespace Pi
open PySem PySem.Spec PyProof.Rows L2
section
variable {X : Cx} {I : XI} {E : XK} {W0 : Wd} {H0 : Hp} {fr : Bool} {OL : List Nat} {O : List Nat} {O' : Option (List Nat)} {sg : Sig} {cf : String → List Val → Store → Res Val}
/-! ### isinstance -/
theorem ty_boot {t : Ty} {n : String} (h : tyN t = some n) : bootBuiltins (n : Str) = some (.type n) ∧ (n : Str) ≠ "__name__" ∧ ((n : Str) == ("__debug__" : Str)) = false := by
  cases t <;> cases h <;> refine ⟨by rfl, by decide, by decide⟩
theorem pe_ty {t : Ty} {n : String} {p : Pos} (ht : tyN t = some n) (hg : Gl X (n : Str)) (hm : X.mg (n : Str) = none) : PE X (.Name (n : Str) p) (tC (.ty n)) :=
  pe_bltn hg hm (ty_boot ht).1 rfl (ty_boot ht).2.1 (ty_boot ht).2.2
theorem j_isa {E : L2.St → XK} {e : IE} {t : Ty} {n : String} {ee : Expr} {p p2 pos : Pos} (ht : tyN t = some n) (hg : Gl X "isinstance") (hm : X.mg "isinstance" = none) (hgt : Gl X (n : Str)) (hmt : X.mg (n : Str) = none)
    (h : JE X I E O (kB I X.K) (fun ρ S => evE sg cf ρ e S) ee) (hs : starEach [ee, .Name (n : Str) p2] X.env = (false, eval ee X.env) :: starEach [.Name (n : Str) p2] X.env) :
    JE X I E O (kF I X.K) (fun ρ S => evE sg cf ρ (.isa e [t]) S) (.Call (.Name "isinstance" p) [ee, .Name (n : Str) p2] [] pos) := by
  refine PE.imp (pe_callB call_isi hg hm (by rfl) (pa_cons h (pa_cons (pe_ty ht hgt hmt) pa_nil rfl) hs) (by decide) (by decide) hs rfl) fun σ H Q ⟨W, ρ, S, sr, q⟩ => ⟨W, ρ, S, sr, ?_⟩
  simp only [evE] at q
  refine q.seq (kF_anti _ _) fun v S1 W1 H1 x e1 n1 k1 q1 => ?_
  obtain ⟨z, ez, q2⟩ := q1.of
  cases e2 : isasV sg.eb v [t] with
  | none => rw [e2] at ez; cases ez
  | some b =>
    rw [e2] at ez
    cases ez
    obtain ⟨g1, g2, g3⟩ := isas_kit (K := X.K) (ns := [n]) (by simp [ht]) e2 (by simp)
    have g4 : PySem.W.kitOne X.K (.type (tyV v)) (.type n) = some b := by
      have e3 : isaV sg.eb t v = some b := by
        unfold isasV at e2
        cases e4 : isaV sg.eb t v with
        | none => rw [e4] at e2; cases e2
        | some c => rw [e4] at e2; cases c <;> simpa [isasV] using e2
      exact (isa_kit ht e3).2.2
    exact ⟨x, .ty n, _, _, b, rfl, .ty n, TyOfV k1 g1 g2, g4, q2.here n1.w n1.s rfl⟩
/-- names of types -/
theorem pa_tys : ∀ {ts : List Ty} {ns : List String} {es : List Expr}, ts.map tyN = ns.map some → (∀ n ∈ ns, Gl X (n : Str) ∧ X.mg (n : Str) = none) → es.map (fun e => match e with | .Name x _ => some x | _ => none) = ns.map (fun (n : String) => some (n : Str)) →
    PA X es (fun σ H Q => Q (ns.map V.ty) H)
  | [], [], [], _, _, _ => pa_nil
  | [], [], e :: es, _, _, h => by cases h
  | [], n :: ns, _, h, _, _ => by cases h
  | t :: ts, [], _, h, _, _ => by cases h
  | t :: ts, n :: ns, [], _, _, h => by cases h
  | t :: ts, n :: ns, e :: es, h, hg, hx => by
    rw [List.map_cons, List.map_cons, List.cons.injEq] at h hx
    obtain ⟨g1, g2⟩ := hg n (List.mem_cons_self ..)
    obtain ⟨p, rfl⟩ : ∃ p, e = .Name (n : Str) p := by
      have h1 := hx.1
      split at h1
      · rename_i x p
        rw [Option.some.inj h1]
        exact ⟨p, rfl⟩
      · cases h1
    exact PA.imp (pa_cons (pe_ty h.1 g1 g2) (pa_tys h.2 (fun m hm => hg m (List.mem_cons_of_mem _ hm)) hx.2) rfl) fun σ H Q q => q
theorem tys_cls : ∀ (ns : List String), Paired ClsV (ns.map V.ty) (ns.map Value.type)
  | [] => .nil
  | n :: ns => .cons (.ty n) (tys_cls ns)
theorem KB.upT {K : PySem.W.Frag} {W : Wd} {H : Hp} {S : Store} {v : Val} {x : V} {p : Addr} {xs : List V} (w : WOk W H) (s : StRep I K W H S) (k : KB I K W H v x) (hp : H p = none) : KB I K W (upd H p (.tup xs)) v x := KB.up (Nxt.newT (I := I) (K := K) (xs := xs) w s hp).le (Nxt.newT (I := I) (K := K) (xs := xs) w s hp).kp w k
theorem j_isaT {E : L2.St → XK} {e : IE} {ts : List Ty} {ns : List String} {ee : Expr} {es : List Expr} {kk : Nat} {p p2 pos : Pos} (ht : ts.map tyN = ns.map some) (h0 : ts ≠ []) (hl : ns.length ≤ lim) (hg : Gl X "isinstance") (hm : X.mg "isinstance" = none) (hgt : ∀ n ∈ ns, Gl X (n : Str) ∧ X.mg (n : Str) = none)
    (hes : es.map (fun e => match e with | .Name x _ => some x | _ => none) = ns.map (fun (n : String) => some (n : Str)))
    (h : JE X I E O (kB I X.K) (fun ρ S => evE sg cf ρ e S) ee) (hs : starEach [ee, .Tuple es kk p2] X.env = (false, eval ee X.env) :: starEach [.Tuple es kk p2] X.env) :
    JE X I E O (kF I X.K) (fun ρ S => evE sg cf ρ (.isa e ts) S) (.Call (.Name "isinstance" p) [ee, .Tuple es kk p2] [] pos) := by
  refine PE.imp (pe_callB call_isiT hg hm (by rfl) (pa_cons h (pa_cons (pe_tup (pa_tys ht hgt hes)) pa_nil rfl) hs) (by decide) (by decide) hs rfl) fun σ H Q ⟨W, ρ, S, sr, q⟩ => ⟨W, ρ, S, sr, ?_⟩
  simp only [evE] at q
  refine q.seq (kF_anti _ _) fun v S1 W1 H1 x e1 n1 k1 q1 => ?_
  obtain ⟨z, ez, q2⟩ := q1.of
  cases e2 : isasV sg.eb v ts with
  | none => rw [e2] at ez; cases ez
  | some b =>
    rw [e2] at ez
    cases ez
    obtain ⟨g1, g2, g3⟩ := isas_kit (K := X.K) ht e2 h0
    refine ⟨by rw [List.length_map, sizeLine_lim]; exact hl, fun tp htp => ?_⟩
    exact ⟨x, tp, _, _, _, b, rfl, upd_same, tys_cls ns, TyOfV (KB.upT n1.w n1.s k1 htp) g1 g2, g3, q2 _ _ (.bl b) (Nxt.newT n1.w n1.s htp) rfl⟩

/-! ### comprehensions -/
theorem At.share {K : PySem.W.Frag} {W : Wd} {H : Hp} {r : Res Val} {Q : VK} (q : At I K E (kS I K) W H r Q) : At I K E (kF I K) W H r Q := by
  cases r with
  | ok v S' =>
    intro W' H' x n k
    obtain ⟨W2, h1, h2, h3, h4, h5, h6⟩ := KF.share n.le n.w n.s k
    exact q W2 H' x ⟨h1, n.kp, h4, h5⟩ h6
  | exc y S' => exact q
  | bad => exact q
theorem j_comp {E : L2.St → XK} {k : Nat} {its : List IE} {pt : Pat} {cs : List IE} {e : IE} {elt tg iter : Expr} {ifs : List Expr} {scope : Scope} {own : List (Str × Nat)} {pos : Pos} (hc : X.calm = true) (hN : X.N.Nodup)
    (hi : JI X I E O (evIt sg cf k its) tg iter) (ok : BlkOk X.N X.env.scope scope own) (hv : own.map (·.2) = pt.vars)
    (hg : ∀ (s : Shared) (H : Hp) (C : Addr) (cl : List (Str × Addr)) (fp : List Addr), PG (X.blk s H scope (compEnvC scope cl C X.env) fp) tg (gP I X.K O pt))
    (ht : ∀ (s : Shared) (H : Hp) (C : Addr) (cl : List (Str × Addr)) (fp : List Addr), PTs (X.blk s H scope (compEnvC scope cl C X.env) fp) ifs (rd I X.K (fun _ => E0') (less O pt.vars) kT (fun ρ S => evTs sg cf ρ cs S)))
    (he : ∀ (s : Shared) (H : Hp) (C : Addr) (cl : List (Str × Addr)) (fp : List Addr), PE (X.blk s H scope (compEnvC scope cl C X.env) fp) elt (rd I X.K (fun _ => E0') (less O pt.vars) (kS I X.K) (fun ρ S => evE sg cf ρ e S)))
    (hs : ∀ x, foldedSetIterable iter X.env x = pure x) : JE X I E O (kF I X.K) (fun ρ S => evE sg cf ρ (.comp k its pt cs e) S) (.ListComp elt [⟨tg, iter, ifs, 0⟩] scope pos) := by
  have z := pe_lc (pos := pos) hc hN hi ok hg ht he hs
  rw [hv] at z
  exact PE.imp z fun σ H Q q => comp_rd q
/-- name = [..] -/
theorem js_asgC {i : Nat} {y : Str} {k : Nat} {its : List IE} {pt : Pat} {cs : List IE} {e : IE} {elt tg iter : Expr} {ifs : List Expr} {scope : Scope} {own : List (Str × Nat)} {py pos spos : Pos} (hc : X.calm = true) (hN : X.N.Nodup) (hy : X.N[i]? = some y) (hyl : X.env.scope.names.lookup y = some .local)
    (hsw : swapsWith (.ListComp elt [⟨tg, iter, ifs, 0⟩] scope pos) (some (.Name y py)) spos.line X.env = pure true)
    (hi : JI X I (fun _ => E) O (evIt sg cf k its) tg iter) (ok : BlkOk X.N X.env.scope scope own) (hv : own.map (·.2) = pt.vars)
    (hg : ∀ (s : Shared) (H : Hp) (C : Addr) (cl : List (Str × Addr)) (fp : List Addr), PG (X.blk s H scope (compEnvC scope cl C X.env) fp) tg (gP I X.K O pt))
    (ht : ∀ (s : Shared) (H : Hp) (C : Addr) (cl : List (Str × Addr)) (fp : List Addr), PTs (X.blk s H scope (compEnvC scope cl C X.env) fp) ifs (rd I X.K (fun _ => E0') (less O pt.vars) kT (fun ρ S => evTs sg cf ρ cs S)))
    (he : ∀ (s : Shared) (H : Hp) (C : Addr) (cl : List (Str × Addr)) (fp : List Addr), PE (X.blk s H scope (compEnvC scope cl C X.env) fp) elt (rd I X.K (fun _ => E0') (less O pt.vars) (kS I X.K) (fun ρ S => evE sg cf ρ e S)))
    (hs : ∀ x, foldedSetIterable iter X.env x = pure x) : JS X I E W0 H0 fr OL O (some (less O [i])) (fun ρ S => evS sg cf (.asg (.v i) (.comp k its pt cs e)) ρ S) (.Assign [.Name y py] (.ListComp elt [⟨tg, iter, ifs, 0⟩] scope pos) spos) := by
  have z := ps_setLc (pos := pos) hc hN hy hyl hsw hi ok hg ht he hs
  rw [hv] at z
  refine PS.imp z fun D σ H ⟨W, ρ, S, sr, q⟩ => ?_
  simp only [evS] at q
  exact AtS.lc sr.sr (At.share (q.seq (kd := kS I X.K) sr fun v S1 W1 H1 y e1 n1 k1 q1 => q1.nx ((sr.nxt n1).set k1)))
theorem js_ownC {i : Nat} {y : Str} {k : Nat} {its : List IE} {pt : Pat} {cs : List IE} {e : IE} {elt tg iter : Expr} {ifs : List Expr} {scope : Scope} {own : List (Str × Nat)} {py pos spos : Pos} (hc : X.calm = true) (hN : X.N.Nodup) (hy : X.N[i]? = some y) (hyl : X.env.scope.names.lookup y = some .local)
    (hsw : swapsWith (.ListComp elt [⟨tg, iter, ifs, 0⟩] scope pos) (some (.Name y py)) spos.line X.env = pure true)
    (hi : JI X I (fun _ => E) O (evIt sg cf k its) tg iter) (ok : BlkOk X.N X.env.scope scope own) (hv : own.map (·.2) = pt.vars)
    (hg : ∀ (s : Shared) (H : Hp) (C : Addr) (cl : List (Str × Addr)) (fp : List Addr), PG (X.blk s H scope (compEnvC scope cl C X.env) fp) tg (gP I X.K O pt))
    (ht : ∀ (s : Shared) (H : Hp) (C : Addr) (cl : List (Str × Addr)) (fp : List Addr), PTs (X.blk s H scope (compEnvC scope cl C X.env) fp) ifs (rd I X.K (fun _ => E0') (less O pt.vars) kT (fun ρ S => evTs sg cf ρ cs S)))
    (he : ∀ (s : Shared) (H : Hp) (C : Addr) (cl : List (Str × Addr)) (fp : List Addr), PE (X.blk s H scope (compEnvC scope cl C X.env) fp) elt (rd I X.K (fun _ => E0') (less O pt.vars) (kS I X.K) (fun ρ S => evE sg cf ρ e S)))
    (hs : ∀ x, foldedSetIterable iter X.env x = pure x) : JS X I E W0 H0 fr OL O (some (i :: less O [i])) (fun ρ S => evS sg cf (.own i (.comp k its pt cs e)) ρ S) (.Assign [.Name y py] (.ListComp elt [⟨tg, iter, ifs, 0⟩] scope pos) spos) := by
  have z := ps_setLc (pos := pos) hc hN hy hyl hsw hi ok hg ht he hs
  rw [hv] at z
  refine PS.imp z fun D σ H ⟨W, ρ, S, sr, q⟩ => ?_
  simp only [evS] at q
  refine AtS.lc sr.sr (q.seq (kd := kF I X.K) sr fun v S1 W1 H1 y e1 n1 k1 q1 => ?_)
  cases v <;> try (exact q1.elim)
  obtain ⟨a, rfl, h2, h3⟩ := k1
  refine q1.nx ((sr.nxt n1).setOwn h2 (fun z => h3 (sr.le.p a z)) fun j hj _ e2 e3 => ?_)
  obtain ⟨q3, e3⟩ := e3
  obtain ⟨l, b, _, h4, h5⟩ := sr.sr.e.ow j _ e3 hj
  rw [e2] at h4
  cases h4
  exact h3 h5.1

/-! ### a table of texts -/
/-- the global x is a dict with these rows -/
def DxOk (X : Cx) (I : XI) (x : Str) (kvs : List (Str × Val)) : Prop := ∃ p : Addr, X.mg x = some (.ref p) ∧ ∀ y v, kvs.lookup y = some v → ∃ u, KDct X.K X.w p y u ∧ ∀ H R μ, RepV I X.K H R μ v u
theorem j_dix {E : L2.St → XK} {x : Str} {n : String} {kvs : List (Str × Val)} {a : IE} {ea : Expr} {p pos : Pos} (g : DxOk X I x kvs) (hg : Gl X x) (hd : (x == ("__debug__" : Str)) = false) (hp : PlainIx ea) (ha : JE X I E O (kB I X.K) (fun ρ S => evE sg cf ρ a S) ea) :
    JE X I E O (kS I X.K) (fun ρ S => evE sg cf ρ (.dix n kvs a) S) (.Subscript (.Name x p) ea pos) := by
  obtain ⟨t, ht, hk⟩ := g
  refine PE.imp (pe_ix ix_kdict (pe_glob (v := V.ref t) hg ht rfl hd) ha hp) fun σ H Q ⟨W, ρ, S, sr, q⟩ => ⟨W, ρ, S, sr, ?_⟩
  simp only [evE] at q
  refine q.seq (kS_anti _ _) fun v S1 W1 H1 y e1 n1 k1 q1 => ?_
  cases v <;> try (exact q1.elim)
  rename_i y1
  obtain ⟨z, ez, q2⟩ := At.of q1
  obtain ⟨e2, _⟩ := k1
  subst e2
  obtain ⟨u, h1, h2⟩ := hk y1 z ez
  exact ⟨t, y1, u, rfl, rfl, h1, q2.here n1.w n1.s (h2 _ _ _)⟩
/-! ### joins -/
theorem strs_vals {W : Wd} {H : Hp} : ∀ {l : List Val} {ys : List Str} {xs : List V}, strsV l = some ys → Rps I X.K W H l xs → xs = ys.map V.str ∧ ∀ y ∈ ys, PyData.strOk y = true
  | [], ys, xs, h, r => by
    cases h
    cases r
    exact ⟨rfl, fun y hy => by cases hy⟩
  | v :: l, ys, xs, h, r => by
    obtain ⟨x, xs', rfl, r1, r2⟩ := r
    cases v <;> try (cases h; done)
    rename_i y
    unfold strsV at h
    cases e : strsV l with
    | none => rw [e] at h; cases h
    | some zs =>
      rw [e] at h
      cases h
      obtain ⟨h1, h2⟩ := strs_vals e r2
      obtain ⟨rfl, h3, h4⟩ := r1
      exact ⟨by rw [h1]; rfl, fun w hw => by rcases List.mem_cons.mp hw with rfl | hw <;> first | exact h2 _ hw | assumption⟩
theorem strOk_join {s : Str} (hs : PyData.strOk s = true) : ∀ {ys : List Str}, (∀ y ∈ ys, PyData.strOk y = true) → PyData.strOk (Str.join s ys) = true
  | [], _ => (by decide +kernel : PyData.strOk Str.empty = true)
  | [x], h => h x (List.mem_cons_self ..)
  | x :: z :: r, h => strOk_app (strOk_app (h x (List.mem_cons_self ..)) hs) (strOk_join hs fun y hy => h y (List.mem_cons_of_mem _ hy))
/-- 'text'.join(list) -/
theorem j_join {E : L2.St → XK} {s : Str} {a : IE} {ea : Expr} {j : Nat} {p apos pos : Pos} (hl : s.length ≤ lim) (ho : PyData.strOk s = true) (hline : (apos.endLine == pos.line) = true) (ha : JE X I E O (kB I X.K) (fun ρ S => evE sg cf ρ a S) ea)
    (hs : starEach [ea] X.env = [(false, eval ea X.env)]) : JE X I E O (kF I X.K) (fun ρ S => evE sg cf ρ (.bi .join [.cst (.str s), a]) S) (.Call (.Attribute (.Constant (.str s) j p) "join" apos) [ea] [] pos) := by
  refine PE.imp (pe_join (j_str (I := I) (E := E) (O := O) (sg := sg) (cf := cf) hl ho) ha hs rfl hline) fun σ H Q ⟨W, ρ, S, sr, q⟩ => ⟨W, ρ, S, sr, ?_⟩
  simp only [evE, evEs, Res.bind_ok] at q
  show At I X.K (E σ) (kF I X.K) W H (evE sg cf ρ (.cst (.str s)) S) _
  simp only [evE]
  intro W1 H1 x n1 k1
  obtain ⟨rfl, _, _⟩ := k1
  refine ⟨⟨s, rfl⟩, W1, ρ, S, sr.nxt n1, ?_⟩
  show At I X.K (E σ) (kB I X.K) W1 H1 (evE sg cf ρ a S) _
  have q : At I X.K (E σ) (kF I X.K) W1 H1 ((evE sg cf ρ a S).bind fun v S2 => (Res.ok [.str s, v] S2 : Res (List Val)).bind fun vs S3 => .of (biV S3 .join vs) S3) Q := by
    have q2 := q.shift (kF_anti _ _) n1
    cases e : evE sg cf ρ a S <;> rw [e] at q2 <;> exact q2
  refine q.seq (kF_anti _ _) fun v S2 W2 H2 y e2 n2 k2 q2 => ?_
  simp only [Res.bind_ok] at q2
  obtain ⟨z, ez, q3⟩ := At.of q2
  cases v <;> try (cases ez; done)
  rename_i l
  have ez : ((strsV l).bind fun ys => if (ys.map (·.length)).sum + ys.length * s.length ≤ lim then some (.str (Str.join s ys)) else none) = some z := ez
  cases e3 : strsV l with
  | none => rw [e3] at ez; cases ez
  | some ys =>
    rw [e3] at ez
    simp only [Option.bind_some] at ez
    split at ez
    · rename_i hle
      cases ez
      obtain ⟨b, xs, rfl, h1, h2⟩ := k2
      obtain ⟨rfl, h3⟩ := strs_vals e3 h2
      refine ⟨s, b, ys, rfl, rfl, .inl (.inl (.inl h1.2)), hle, ?_⟩
      rw [TL.join_eq]
      exact q3.here n2.w n2.s ⟨rfl, Nat.le_trans (StrLaws.join_length_le s ys) hle, strOk_join ho h3⟩
    · cases ez
end

/-! ### the rest, by a star -/
section
variable {prog : Program} {w : World} {A : Around} {F : Value → Shared → Prop} {u : Shared}
theorem star_list {b : Addr} {its : Array Value} {k : Nat} {Q : List Value → Shared → Prop} (hb : u.heap.IsList b its) (hh : A.handled = none) (hk : k ≤ its.size) (hz : its.size ≤ sizeLine)
    (go : ∀ (g : Heap) (tk : Nat), (∀ c o, u.heap.get? c = some o → g.get? c = some o) → Q (its.toList.take k ++ [.ref g.objs.size]) { u with heap := g.push { cls := .type "list", data := .seq (its.toList.drop k).toArray }, toks := tk }) :
    wpAny (model prog w) A (unpackItems (.ref b) (k + 1) (some k)) Q F u := by
  have b1 : b ≠ u.heap.objs.size := by obtain ⟨o, ho, _⟩ := hb; exact Nat.ne_of_lt (Heap.lt_size ho)
  unfold unpackItems
  refine wpAny_bind ?_
  unfold notIterableAtAll
  refine wpAny_bind (wpAny_specialOf hb.typeIs slot_list_iter.lookup (wpAny_pure ?_))
  simp only [Bool.false_eq_true, if_false]
  refine wpAny_bind (wpAny_holding (wpAny_pyIter_list hb (wpAny_bind (wpAny_holding (PySem.W.kun_draw b1 k 0 _ _ ⟨_, Heap.get?_push_size _ rfl, rfl, rfl⟩ (hb.push _) (by omega) fun g1 i1 t1 => ?_)))))
  have c1 : g1.IsList b its := (hb.push _).extBut t1.extBut b1
  rw [Nat.zero_add] at i1
  obtain ⟨x1, y1, z1⟩ := i1
  obtain ⟨x2, y2, z2⟩ := c1
  rw [List.drop_zero]
  have l1 : (its.toList.take k).length = k := by rw [List.length_take, Array.length_toList]; omega
  rw [if_neg (by rw [l1]; omega)]
  refine wpAny_bind (wpAny_holding (PySem.W.kun_collect (s := { u with heap := g1 }) (T := "list_iterator") (.inr (.inr (.inl rfl))) (Walks.list (A := A.in1) hh u.heap.objs.size b b1 its) (fun j v st => st.1.typeIs) (k := k) hk ⟨⟨x1, y1, z1⟩, ⟨x2, y2, z2⟩⟩ (Heap.lt_size y1) (Heap.lt_size y2) (fun g2 tk kp => ?_) hz))
  have l2 : (its.toList.drop k).length = its.size - k := by rw [List.length_drop, Array.length_toList]
  have l3 : (its.toList.drop k).length - (k + 1 - 1 - k) = its.size - k := by rw [l2]; omega
  show wpAny _ _ (if (its.toList.drop k).length < k + 1 - 1 - k then _ else _) _ _ _
  rw [if_neg (by omega)]
  show wpAny _ _ (newList ((its.toList.drop k).take ((its.toList.drop k).length - (k + 1 - 1 - k))) >>= fun d => pure (its.toList.take k ++ [d] ++ (its.toList.drop k).drop ((its.toList.drop k).length - (k + 1 - 1 - k)))) _ _ _
  have l4 : (its.toList.drop k).take (its.size - k) = its.toList.drop k := List.take_of_length_le (by omega)
  have l5 : (its.toList.drop k).drop (its.size - k) = [] := List.drop_of_length_le (by omega)
  rw [l3, l4, l5]
  refine wpAny_bind (wpAny_newList (wpAny_pure ?_))
  rw [List.append_nil]
  exact go g2 tk fun c o e => kp c o (Nat.ne_of_lt (Heap.lt_size e)) (t1.extBut c o (Nat.ne_of_lt (Heap.lt_size e)) (Heap.get?_push_of_some _ e))
theorem star_tup {b : Addr} {its : Array Value} {k : Nat} {Q : List Value → Shared → Prop} (hb : IsTup u.heap b its) (hh : A.handled = none) (hk : k ≤ its.size) (hz : its.size ≤ sizeLine)
    (go : ∀ (g : Heap) (tk : Nat), (∀ c o, u.heap.get? c = some o → g.get? c = some o) → Q (its.toList.take k ++ [.ref g.objs.size]) { u with heap := g.push { cls := .type "list", data := .seq (its.toList.drop k).toArray }, toks := tk }) :
    wpAny (model prog w) A (unpackItems (.ref b) (k + 1) (some k)) Q F u := by
  have b1 : b ≠ u.heap.objs.size := by obtain ⟨o, ho, _⟩ := hb; exact Nat.ne_of_lt (Heap.lt_size ho)
  unfold unpackItems
  refine wpAny_bind ?_
  unfold notIterableAtAll
  refine wpAny_bind (wpAny_specialOf hb.typeIs slot_tuple_iter.lookup (wpAny_pure ?_))
  simp only [Bool.false_eq_true, if_false]
  refine wpAny_bind (wpAny_holding (iter_tuple hb (wpAny_bind (wpAny_holding (draw_tuple b1 k 0 _ _ ⟨_, Heap.get?_push_size _ rfl, rfl, rfl⟩ (hb.push _) (by omega) fun g1 i1 t1 => ?_)))))
  have c1 : IsTup g1 b its := (hb.push _).extBut t1.extBut b1
  rw [Nat.zero_add] at i1
  obtain ⟨x1, y1, z1⟩ := i1
  obtain ⟨x2, y2, z2⟩ := c1
  rw [List.drop_zero]
  have l1 : (its.toList.take k).length = k := by rw [List.length_take, Array.length_toList]; omega
  rw [if_neg (by rw [l1]; omega)]
  refine wpAny_bind (wpAny_holding (PySem.W.kun_collect (s := { u with heap := g1 }) (T := "tuple_iterator") (.inr (.inr (.inr rfl))) (Walks.tuple (A := A.in1) hh u.heap.objs.size b b1 its) (fun j v st => st.1.typeIs) (k := k) hk ⟨⟨x1, y1, z1⟩, ⟨x2, y2, z2⟩⟩ (Heap.lt_size y1) (Heap.lt_size y2) (fun g2 tk kp => ?_) hz))
  have l2 : (its.toList.drop k).length = its.size - k := by rw [List.length_drop, Array.length_toList]
  have l3 : (its.toList.drop k).length - (k + 1 - 1 - k) = its.size - k := by rw [l2]; omega
  show wpAny _ _ (if (its.toList.drop k).length < k + 1 - 1 - k then _ else _) _ _ _
  rw [if_neg (by omega)]
  show wpAny _ _ (newList ((its.toList.drop k).take ((its.toList.drop k).length - (k + 1 - 1 - k))) >>= fun d => pure (its.toList.take k ++ [d] ++ (its.toList.drop k).drop ((its.toList.drop k).length - (k + 1 - 1 - k)))) _ _ _
  have l4 : (its.toList.drop k).take (its.size - k) = its.toList.drop k := List.take_of_length_le (by omega)
  have l5 : (its.toList.drop k).drop (its.size - k) = [] := List.drop_of_length_le (by omega)
  rw [l3, l4, l5]
  refine wpAny_bind (wpAny_newList (wpAny_pure ?_))
  rw [List.append_nil]
  exact go g2 tk fun c o e => kp c o (Nat.ne_of_lt (Heap.lt_size e)) (t1.extBut c o (Nat.ne_of_lt (Heap.lt_size e)) (Heap.get?_push_of_some _ e))
end
section
variable {X : Cx} {I : XI} {O : List Nat}
theorem bindPs_snoc {q : Pat} {v : Val} {ρ' : Env} : ∀ {ps : List Pat} {vs : List Val} {ρ ρ1 : Env}, bindPs ps vs ρ = some ρ1 → bindP q v ρ1 = some ρ' → bindPs (ps ++ [q]) (vs ++ [v]) ρ = some ρ'
  | [], [], ρ, ρ1, h, h2 => by
    cases h
    show (bindP q v ρ).bind (fun r => bindPs [] [] r) = some ρ'
    rw [h2]
    rfl
  | [], _ :: _, _, _, h, _ => by cases h
  | _ :: _, [], _, _, h, _ => by cases h
  | p :: ps, x :: vs, ρ, ρ1, h, h2 => by
    have h : (bindP p x ρ).bind (fun r => bindPs ps vs r) = some ρ1 := h
    show (bindP p x ρ).bind (fun r => bindPs (ps ++ [q]) (vs ++ [v]) r) = some ρ'
    cases e : bindP p x ρ with
    | none => rw [e] at h; cases h
    | some ρ2 =>
      rw [e] at h
      exact bindPs_snoc (ps := ps) h h2
theorem varsL_snoc (i : Nat) : ∀ ps : List Pat, Pat.varsL (ps ++ [.v i]) = Pat.varsL ps ++ [i]
  | [] => rfl
  | p :: ps => by
    show p.vars ++ Pat.varsL (ps ++ [.v i]) = (p.vars ++ Pat.varsL ps) ++ [i]
    rw [varsL_snoc i ps, List.append_assoc]
theorem vals_take {n : Nat} : ∀ {xs : List V} {us : List Value}, Vals xs us → Vals (xs.take n) (us.take n) ∧ Vals (xs.drop n) (us.drop n) := by
  induction n with
  | zero => exact fun h => ⟨.nil, h⟩
  | succ n ih =>
    intro xs us h
    cases h with
    | nil => exact ⟨.nil, .nil⟩
    | cons r t => exact ⟨.cons r (ih t).1, (ih t).2⟩
theorem vals_snoc : ∀ {xs : List V} {us : List Value} {x : V} {v : Value}, Vals xs us → RelV x v → Vals (xs ++ [x]) (us ++ [v])
  | _, _, _, _, .nil, r => .cons r .nil
  | _, _, _, _, .cons a t, r => .cons a (vals_snoc t r)
theorem Rps.take {K : PySem.W.Frag} {W : Wd} {H : Hp} {n : Nat} : ∀ {l : List Val} {xs : List V}, Rps I K W H l xs → Rps I K W H (l.take n) (xs.take n) ∧ Rps I K W H (l.drop n) (xs.drop n) := by
  induction n with
  | zero => exact fun h => ⟨rfl, h⟩
  | succ n ih =>
    intro l xs h
    cases l with
    | nil => cases h; exact ⟨rfl, rfl⟩
    | cons v l =>
      obtain ⟨x, xs', rfl, r1, r2⟩ := h
      exact ⟨⟨x, _, rfl, r1, (ih r2).1⟩, (ih r2).2⟩
theorem star_bind {i : Nat} {ps : List Pat} {l : List Val} {ρ ρ' : Env} (e : (if ps.length ≤ l.length then (bindPs ps (l.take ps.length) ρ).map fun ρ' => setE ρ' i (.lst (l.drop ps.length)) else none) = some ρ') :
    ps.length ≤ l.length ∧ bindPs (ps ++ [.v i]) (l.take ps.length ++ [.lst (l.drop ps.length)]) ρ = some ρ' := by
  split at e
  · rename_i h
    cases e1 : bindPs ps (l.take ps.length) ρ with
    | none => rw [e1] at e; cases e
    | some ρ1 =>
      rw [e1] at e
      cases e
      exact ⟨h, bindPs_snoc e1 rfl⟩
  · cases e
/-- a, .., *rest = x -/
theorem g_star {ps : List Pat} {i : Nat} {es : List Expr} {k : Nat} {pos : Pos} (hc : X.calm = true) (h : PGs X es (gPs I X.K O (ps ++ [.v i]))) (hn : (assignEach es X.env).length = ps.length + 1) (hst : (assignEach es X.env).findIdx? (·.1) = some ps.length) :
    PG X (.Tuple es k pos) (gP I X.K O (.star ps i)) := by
  refine ⟨fun pins s σ H v u Q J r ⟨W, ρ, S, pv, ρ', sr, rv, e, q⟩ => ?_⟩
  rw [assign_Tuple]
  refine wpAny_bind (wpAny_standAt ?_)
  unfold unpack
  rw [hn, hst]
  refine wpAny_bind (wpAny_holding ?_)
  have fin : ∀ (l : List Val) (xs : List V) (its : List Value) (g : Heap) (tk : Nat), bindPs (ps ++ [.v i]) (l.take ps.length ++ [.lst (l.drop ps.length)]) ρ = some ρ' → Rps I X.K W H l xs → Vals xs its → its.length ≤ sizeLine → (∀ c o, s.heap.get? c = some o → g.get? c = some o) →
      wpAny (model X.prog X.w) X.A (assignInOrder ((assignEach es X.env).map (·.2)) (its.take ps.length ++ [.ref g.objs.size])) (fun _ s' => ∃ σ' H', Inv X pins σ' H' s' ∧ Q σ' H') X.xe { s with heap := g.push { cls := .type "list", data := .seq (its.drop ps.length).toArray }, toks := tk } := by
    intro l xs its g tk eb r2 rv hz kp
    have J1 : Inv X pins σ H { s with heap := g, toks := tk } := J.kept (t' := tk) kp
    have hv := (vals_take (n := ps.length) rv)
    have J2 := J1.lnew (t' := tk) (its := its.drop ps.length) (ys := xs.drop ps.length) hv.2 (by rw [List.length_drop, rv.length]; omega)
    have hD : H g.objs.size = none := J1.fresh
    have nD : ¬ W.P g.objs.size := sr.w.no hD
    have n1 : Nxt I X.K W H (W.add g.objs.size) (upd H g.objs.size (.lst (xs.drop ps.length))) S := ⟨le_add, Kp.new hD, wok_add hD sr.w, st_add hD sr.w sr.s⟩
    have r3 := Rps.take (n := ps.length) r2
    have kf : KF I X.K (W.add g.objs.size) (upd H g.objs.size (.lst (xs.drop ps.length))) W (.lst (l.drop ps.length)) (.ref g.objs.size) := ⟨_, rfl, ⟨.inl rfl, fun z => nD (sr.w.rp _ z), _, upd_same, Rps.up n1.le n1.kp sr.w r3.2⟩, nD⟩
    obtain ⟨W2, h1, h2, h3, h4, h5, h6⟩ := KF.share n1.le n1.w n1.s kf
    have n2 : Nxt I X.K W H W2 (upd H g.objs.size (.lst (xs.drop ps.length))) S := ⟨h1, n1.kp, h4, h5⟩
    refine h.run pins _ σ _ (xs.take ps.length ++ [.ref g.objs.size]) _ Q J2 (vals_snoc hv.1 (show L2.RelV (V.ref g.objs.size) (Value.ref g.objs.size) from rfl)) ⟨W2, ρ, S, _, ρ', sr.nxt n2, RepVs.append (Rps.up n2.le n2.kp sr.w r3.1) (show Rps I X.K W2 _ [_] [V.ref g.objs.size] from ⟨_, [], rfl, h6, rfl⟩), eb, fun W3 H3 σ3 n3 sr3 a3 => ?_⟩
    rw [varsL_snoc] at sr3 a3
    exact q W3 H3 σ3 (n2.trans n3) sr3 a3
  cases pv <;> try (cases e; done)
  · rename_i l
    obtain ⟨e1, e2⟩ := star_bind e
    obtain ⟨a, xs, rfl, r1, r2⟩ := rv
    cases r
    obtain ⟨its, rv, ht, hz⟩ := J.tuple r1
    refine star_tup ht (J.ok.hd hc) (by rw [List.size_toArray, ← rv.length, ← RepVs.length r2]; exact e1) (by simpa [← rv.length] using hz) fun g tk kp => ?_
    simpa using fin l xs its g tk e2 r2 rv (by rw [← rv.length]; exact hz) kp
  · rename_i l
    obtain ⟨e1, e2⟩ := star_bind e
    obtain ⟨a, xs, rfl, r1, r2⟩ := rv
    cases r
    obtain ⟨its, rv, ht, hz⟩ := J.list (.inl (.inl r1.2))
    refine star_list ht.isList (J.ok.hd hc) (by rw [List.size_toArray, ← rv.length, ← RepVs.length r2]; exact e1) (by simpa [← rv.length] using hz) fun g tk kp => ?_
    simpa using fin l xs its g tk e2 r2 rv (by rw [← rv.length]; exact hz) kp
end
/-! ### names in parallel, any number -/
section
variable {X : Cx} {I : XI} {E : XK} {W0 : Wd} {H0 : Hp} {fr : Bool} {OL : List Nat} {O : List Nat} {sg : Sig} {cf : String → List Val → Store → Res Val}
theorem MRep.len {K : PySem.W.Frag} {W W' : Wd} {H' : Hp} : ∀ {ms : List Bool} {vs : List Val} {xs : List V}, MRep I K W W' H' ms vs xs → xs.length = ms.length
  | [], _, _, ⟨_, h⟩ => by rw [h]; rfl
  | m :: ms, _, _, ⟨v, vs, x, xs, _, h, _, h2⟩ => by rw [h, List.length_cons, List.length_cons, MRep.len h2]
theorem parG_rd {is : List (Nat × Bool)} {es : List IE} {D : Ends} {σ : L2.St} {H : Hp} (h : rdS I X.K E W0 H0 fr OL O (some (parO O is)) (fun ρ S => evS sg cf (.par is es) ρ S) D σ H) :
    rd I X.K (fun _ => E) O (kM I X.K (is.map (·.2))) (fun ρ S => evEs sg cf ρ es S) σ H (fun xs H1 => xs.length = is.length ∧ ∀ p, H1 p = none → D.nx (setsP is xs σ) (upd H1 p (.tup xs))) := by
  obtain ⟨W, ρ, S, sr, q⟩ := h
  simp only [evS] at q
  refine ⟨W, ρ, S, sr.sr, ?_⟩
  show At I X.K E (kM I X.K (is.map (·.2))) W H (evEs sg cf ρ es S) _
  cases e1 : evEs sg cf ρ es S with
  | bad => rw [e1] at q; exact q
  | exc y S1 =>
    rw [e1] at q
    exact fun W' H' cls d n k => q W' H' cls d (sr.n0 n) k
  | ok vs S1 =>
    rw [e1] at q
    simp only [Res.on_ok] at q
    intro W1 H1 xs n1 k1
    cases e2 : parE is vs ρ with
    | none => rw [e2] at q; exact q.elim
    | some ρ' =>
      rw [e2] at q
      have sr1 := sr.nxt n1
      refine ⟨by rw [MRep.len k1, List.length_map], fun p hp => ?_⟩
      have s2 := par_set sr.le sr1 k1 e2 fun j a k l ej ev ex hk hs hp => by
        have f := MRep.fresh k1 ej ev ex
        obtain ⟨p, hp⟩ := hp
        obtain ⟨l2, b, _, h4, h5⟩ := sr.sr.e.ow k p hp hk
        rw [hs] at h4
        cases h4
        exact f h5.1
      have n2 : Nxt I X.K W1 H1 W1 (upd H1 p (.tup xs)) S1 := Nxt.newT n1.w n1.s hp
      exact q _ rfl W1 _ _ (s2.nxt n2) ((n1.trans n2).nr sr.sr.w)
/-- names, each a target of its slot -/
def NmOk (X : Cx) : List (Nat × Bool) → List Expr → Prop
  | [], [] => True
  | (i, _) :: is, e :: es => (∃ y p, e = .Name y p ∧ X.N[i]? = some y ∧ L2.Loc X.env.scope y ∧ (X.fn y = true ∨ X.env.scope.names.lookup y = some .local)) ∧ NmOk X is es
  | _, _ => False
theorem nm_pgs (hN : X.N.Nodup) : ∀ {is : List (Nat × Bool)} {es : List Expr}, NmOk X is es → PGs X es (fun xs σ H Q => xs.length = is.length ∧ Q (setsP is xs σ) H) ∧ (assignEach es X.env).length = is.length ∧ (assignEach es X.env).findIdx? (·.1) = none
  | [], [], _ => by
    refine ⟨⟨fun pins s σ H vs us Q J r ⟨q1, q⟩ => ?_⟩, rfl, rfl⟩
    cases vs with
    | nil => exact pgs_nil.run pins s σ H [] us Q J r ⟨rfl, q⟩
    | cons _ _ => cases q1
  | [], _ :: _, h => h.elim
  | _ :: _, [], h => h.elim
  | (i, m) :: is, e :: es, hx => by
    obtain ⟨⟨y, p, rfl, h1, h2, h3⟩, h⟩ := hx
    obtain ⟨q1, q2, q3⟩ := nm_pgs hN h
    refine ⟨⟨fun pins s σ H vs us Q J r ⟨l, q⟩ => ?_⟩, by show (assignEach es X.env).length + 1 = _; rw [q2]; rfl, ?_⟩
    · cases vs with
      | nil => cases l
      | cons v vs => exact (pgs_cons (pg_name hN h1 h2 h3) q1 rfl).run pins s σ H (v :: vs) us Q J r ⟨v, vs, rfl, Nat.succ.inj l, q⟩
    · show List.findIdx? _ ((false, _) :: assignEach es X.env) = none
      rw [List.findIdx?_cons]
      simp [q3]
theorem js_parG {is : List (Nat × Bool)} {es : List IE} {ts vs : List Expr} {k k2 : Nat} {p p2 pos : Pos} (hc : X.calm = true) (hN : X.N.Nodup) (hl : es.length ≤ lim) (hn : NmOk X is ts) (h : JA X I (fun _ => E) O (kM I X.K (is.map (·.2))) (fun ρ S => evEs sg cf ρ es S) vs)
    (hw : swappedStores [.Tuple ts k p] (.Tuple vs k2 p2) X.env = pure none) (hil : is.length ≤ lim) :
    JS X I E W0 H0 fr OL O (some (parO O is)) (fun ρ S => evS sg cf (.par is es) ρ S) (.Assign [.Tuple ts k p] (.Tuple vs k2 p2) pos) := by
  obtain ⟨q1, q2, q3⟩ := nm_pgs hN hn
  refine PS.imp (ps_asg (pe_tup h) (pg_tup hc q1 q2 q3) rfl hw rfl) fun D σ H hh => ?_
  obtain ⟨W, ρ, S, sr, q⟩ := parG_rd hh
  refine ⟨W, ρ, S, sr, At.weakQ q fun xs H1 ⟨l, n⟩ => ⟨by rw [l, sizeLine_lim]; exact hil, fun t ht => ?_⟩⟩
  exact ⟨t, xs, rfl, .inl (.inl upd_same), l, l, n t ht⟩
end
end Pi

end
section
set_option linter.all false
set_option maxRecDepth 100000
set_option maxHeartbeats 4000000
/-! PiX: own exceptions over any of Python's own: made, given a field. -/
namespace PiX
open PySem PySem.Builtin.ObjectAttr PySem.W PySem.Calls PyProof.Rows PySem.HandSPX
/-- what B's making and initing rest on: new is nB's -/
structure XB (B nB newId initId iN : String) (bn bm : List Value) : Prop where
  F : ExcBaseFacts nB newId iN bn
  cB : bm.contains (.type nB) = true
  cA : bm.contains (.type "AttributeError") = false
  cN : bm.contains (.type "NameError") = false
  cI : bm.contains (.type B) = true
  cO : bm.contains (.type "object") = true
  iPlain : Slot B "__init__" initId
  iEntry : entryFor table initId = some Builtin.«BaseException.__init__»
  iSplit : splitId initId = some (B, "__init__")
  iKind : builtinKind initId = some .slot
  iRow : Manifest.signature? initId = some ⟨.positional, "*", B, .self, [⟨"args", .varPos, false⟩]⟩
  iStar : (B != "*") = true
  pass : ∀ self : Value, refuseLoop self "__setattr__" bm = pure ()
  ty : typeOf (.type B) = pure (.type "type")
  boot : bootBuiltins (B : Str) = some (.type B)
  nn : (B : Str) ≠ "__name__"
  nd : ((B : Str) == ("__debug__" : Str)) = false
  stub : Manifest.isStub B = false
  hin : handedIn (.builtin initId) = true
theorem xb_of {B newId initId : String} {bm : List Value} (F : ExcBaseFacts B newId initId bm) (cO : bm.contains (.type "object") = true) (ps : ∀ self : Value, refuseLoop self "__setattr__" bm = pure ()) (ty : typeOf (.type B) = pure (.type "type"))
    (boot : bootBuiltins (B : Str) = some (.type B)) (nn : (B : Str) ≠ "__name__") (nd : ((B : Str) == ("__debug__" : Str)) = false) (stub : Manifest.isStub B = false) (hin : handedIn (.builtin initId) = true) : XB B B newId initId initId bm bm :=
  ⟨F, F.hasB, F.noAttr, F.noName, F.hasB, cO, F.init, F.initEntry, F.initSplit, F.initKind, F.initRow, F.noStar, ps, ty, boot, nn, nd, stub, hin⟩
theorem xb_ValueError : XB "ValueError" "ValueError" "ValueError.__new__" "ValueError.__init__" "ValueError.__init__" [.type "ValueError", .type "Exception", .type "BaseException", .type "object"] [.type "ValueError", .type "Exception", .type "BaseException", .type "object"] :=
  xb_of F.excBase_ValueError (by decide +kernel) F.store_ValueError.passes (by kernel_rfl) PyProof.Rows.Boot.«ValueError» (by decide) (by decide) (by decide +kernel) (by decide +kernel)
theorem xb_TypeError : XB "TypeError" "TypeError" "TypeError.__new__" "TypeError.__init__" "TypeError.__init__" [.type "TypeError", .type "Exception", .type "BaseException", .type "object"] [.type "TypeError", .type "Exception", .type "BaseException", .type "object"] :=
  xb_of F.excBase_TypeError (by decide +kernel) F.store_TypeError.passes (by kernel_rfl) PyProof.Rows.Boot.«TypeError» (by decide) (by decide) (by decide +kernel) (by decide +kernel)
theorem xb_IndexError : XB "IndexError" "IndexError" "IndexError.__new__" "IndexError.__init__" "IndexError.__init__" [.type "IndexError", .type "LookupError", .type "Exception", .type "BaseException", .type "object"] [.type "IndexError", .type "LookupError", .type "Exception", .type "BaseException", .type "object"] :=
  xb_of F.excBase_IndexError (by decide +kernel) F.store_IndexError.passes (by kernel_rfl) PyProof.Rows.Boot.«IndexError» (by decide) (by decide) (by decide +kernel) (by decide +kernel)
theorem xb_LookupError : XB "LookupError" "LookupError" "LookupError.__new__" "LookupError.__init__" "LookupError.__init__" [.type "LookupError", .type "Exception", .type "BaseException", .type "object"] [.type "LookupError", .type "Exception", .type "BaseException", .type "object"] :=
  xb_of F.excBase_LookupError (by decide +kernel) F.store_LookupError.passes (by kernel_rfl) PyProof.Rows.Boot.«LookupError» (by decide) (by decide) (by decide +kernel) (by decide +kernel)
theorem xb_OverflowError : XB "OverflowError" "OverflowError" "OverflowError.__new__" "OverflowError.__init__" "OverflowError.__init__" [.type "OverflowError", .type "ArithmeticError", .type "Exception", .type "BaseException", .type "object"] [.type "OverflowError", .type "ArithmeticError", .type "Exception", .type "BaseException", .type "object"] :=
  xb_of F.excBase_OverflowError (by decide +kernel) F.store_OverflowError.passes (by kernel_rfl) PyProof.Rows.Boot.«OverflowError» (by decide) (by decide) (by decide +kernel) (by decide +kernel)
theorem xb_ZeroDivisionError : XB "ZeroDivisionError" "ZeroDivisionError" "ZeroDivisionError.__new__" "ZeroDivisionError.__init__" "ZeroDivisionError.__init__" [.type "ZeroDivisionError", .type "ArithmeticError", .type "Exception", .type "BaseException", .type "object"] [.type "ZeroDivisionError", .type "ArithmeticError", .type "Exception", .type "BaseException", .type "object"] :=
  xb_of F.excBase_ZeroDivisionError (by decide +kernel) F.store_ZeroDivisionError.passes (by kernel_rfl) PyProof.Rows.Boot.«ZeroDivisionError» (by decide) (by decide) (by decide +kernel) (by decide +kernel)
theorem xb_KeyError : XB "KeyError" "LookupError" "LookupError.__new__" "KeyError.__init__" "LookupError.__init__" [.type "LookupError", .type "Exception", .type "BaseException", .type "object"] [.type "KeyError", .type "LookupError", .type "Exception", .type "BaseException", .type "object"] where
  F := F.excBase_LookupError
  cB := by decide +kernel
  cA := by decide +kernel
  cN := by decide +kernel
  cI := by decide +kernel
  cO := by decide +kernel
  iPlain := .of (owner := "KeyError") (n := "__init__") (by rw [typeLookup_type, builtinLookup_eq_fast]; kernel_rfl) (by decide +kernel) (by decide +kernel) (by decide +kernel) (by first | exact .inl (by decide +kernel) | exact .inr (by decide +kernel)) (by rw [isSubtype_type]; kernel_rfl)
  iEntry := entryFor_alias (id' := "BaseException.__init__") (by rw [fastTable_eq_tree]; kernel_rfl) (by first | rfl | decide +kernel) (by decide +kernel) (by rw [fastTable_eq_tree]; kernel_rfl)
  iSplit := by kernel_rfl
  iKind := by kernel_rfl
  iRow := by kernel_rfl
  iStar := by decide +kernel
  pass := fun self => by kernel_rfl
  ty := by kernel_rfl
  boot := PyProof.Rows.Boot.«KeyError»
  nn := by decide
  nd := by decide
  stub := by decide +kernel
  hin := by decide +kernel
section
variable {B nB newId initId iN : String} {bn bm : List Value} (T : XB B nB newId initId iN bn bm)
variable {prog : Program} {w : World} {A : Around} {E : Value → Shared → Prop} {R : Result → Shared → Prop} {hp : Heap} {gs : Array GenState} {dr : Drawn} {tk : Nat} {os : OsState}
variable {nm qn : Str} {C ns : Addr} {bs : List Value} {hd : Bool} {sn : List Str} {sub : List Value} {ab : Bool} {col : Option Bool} {dd : Option Addr} {c0 c1 c2 c3 c5 : Option Value}
include T
theorem x_chk_new {M : Model} {rest : List Value} {kw : List (Str × Value)} {Q : Unit → Shared → Prop} (kC : hp.get? C = some (excClassObj nm qn C ns bs bm hd sn sub ab col dd c0 c1 c2 c3 c5 newId)) (q : Q () ⟨hp, gs, dr, tk, os⟩) :
    wpAny M A (checkBuiltinCall newId ⟨.ref C :: rest, kw⟩) Q E ⟨hp, gs, dr, tk, os⟩ := by
  have e1 : (Value.ref C :: bm).contains (.type nB) = true := by rw [List.contains_cons, T.cB, Bool.or_true]
  have e2 := T.F.noStar
  simp only [checkBuiltinCall, T.F.newKind, T.F.newSplit, T.F.newRow]
  repeat (first | refine wpAny_loadPart_at kC ?_ | (refine wpAny_isSubtype_exc kC ?_; rw [e1]) | refine wpAny_staticBase_exc kC ?_ | refine wpAny_madeBy_exc kC ?_ | simp only [bne_self_eq_false, Bool.false_eq_true, if_false] | wp_step)
  exact q
theorem x_chk_init {M : Model} {e : Addr} {oe : Obj} {rest : List Value} {Q : Unit → Shared → Prop} (kC : hp.get? C = some (excClassObj nm qn C ns bs bm hd sn sub ab col dd c0 c1 c2 c3 c5 newId)) (ke : hp.get? e = some oe) (kc : oe.cls = .ref C)
    (q : Q () ⟨hp, gs, dr, tk, os⟩) : wpAny M A (checkBuiltinCall initId ⟨.ref e :: rest, []⟩) Q E ⟨hp, gs, dr, tk, os⟩ := by
  have e1 : (Value.ref C :: bm).contains (.type B) = true := by rw [List.contains_cons, T.cI, Bool.or_true]
  have e2 := T.iStar
  simp only [checkBuiltinCall, T.iKind, T.iSplit, T.iRow]
  repeat (first | (with_reducible refine wpAny_loadPart_at ke ?_; rw [kc]) | with_reducible refine wpAny_loadPart_at kC ?_ | (with_reducible refine wpAny_isSubtype_exc kC ?_; rw [e1]) | wp_step)
  refine wpAny_onRaise ?_
  rw [show ∀ (a b : String) (n : Nat), Bind.check ⟨.positional, "*", B, .self, [⟨"args", .varPos, false⟩]⟩ a b n (List.map (fun y => y.fst) ({ pos := Value.ref e :: rest } : Args).kw) = pure () from fun a b n => check_star_args _ _ _ _ _ _]
  exact wpAny_pure q
theorem x_new {rest : List Value} {kw : List (Str × Value)} (kC : hp.get? C = some (excClassObj nm qn C ns bs bm hd sn sub ab col dd c0 c1 c2 c3 c5 newId))
    (q : R (.ok (.ret (.ref (hp.objs.size + 1)))) ⟨(hp.push { cls := .type "tuple", data := .seq rest.toArray }).push (excO C hp.objs.size), gs, dr, tk, os⟩) (hr : rest.length ≤ sizeLine) :
    codeAny (model prog w) A (.builtin newId ⟨.ref C :: rest, kw⟩) R ⟨hp, gs, dr, tk, os⟩ := by
  have e0 := T.F.ends
  have e1 : (Value.ref C :: bm).contains (.type nB) = true := by rw [List.contains_cons, T.cB, Bool.or_true]
  have e2 : (Value.ref C :: bm).contains (.type "AttributeError") = false := by rw [List.contains_cons, T.cA]; rfl
  have e3 : (Value.ref C :: bm).contains (.type "NameError") = false := by rw [List.contains_cons, T.cN]; rfl
  refine codeAny_builtinAt T.F.entry ?_
  unfold Builtin.«BaseException.__new__»
  refine PySem.wpAt_bind ?_
  show PySem.wpAt _ _ _ (stack >>= _) _ _ _
  refine PySem.wpAt_bind (PySem.wpAt_stack fun p below => PySem.wpAt_of_wpAny ?_)
  wp_walk
  refine PySem.wpAt_of_wpAny ?_
  rw [T.F.owner]
  repeat (first | with_reducible refine wpAny_madeHere_exc T.F.canon kC ?_ | with_reducible refine wpAny_loadPart_at kC ?_ | (with_reducible refine wpAny_isSubtype_exc kC ?_; first | rw [e1] | rw [e2] | rw [e3]) | wp_step)
  show R _ _
  rw [Heap.size_push]
  exact q
theorem x_type_call {rest : List Value} {kw : List (Str × Value)} {fI : Addr} {Q : Fin → Shared → Prop} (kC : hp.get? C = some (excClassObj nm qn C ns bs bm hd sn sub ab col dd c0 c1 c2 c3 c5 newId))
    (ki : W.Looks (model prog w) hp (typeLookup (.ref C) "__init__") (some (.ref fI))) (kb : ∀ self, W.Looks (model prog w) hp (bindSpecial (.ref fI) self) (.ref fI, [self])) (hr : rest.length ≤ sizeLine)
    (q : codeAny (model prog w) A (.call (.ref fI) ⟨.ref (hp.objs.size + 1) :: rest, kw⟩) (fun r s' => match r with | .ok (.ret v) => v = .none ∧ Q (.done (.ret (.ref (hp.objs.size + 1)))) s' | .ok _ => False | .error e => E e s')
      ⟨(hp.push (W.kdv_tup rest)).push (excO C hp.objs.size), gs, dr, tk, os⟩) : wpAny (model prog w) A (Builtin.«type.__call__» ⟨.ref C :: rest, kw⟩) Q E ⟨hp, gs, dr, tk, os⟩ := by
  repeat (first | with_reducible refine wpAny_loadPart_at kC ?_ | with_reducible refine wpAny_madeBy_exc kC ?_ | wp_step)
  refine codeAny_call_builtin_code (Code.quiet_builtin _ T.F.quiet) (x_chk_new T kC ?_)
  refine x_new T kC ?_ hr
  show wpAny _ _ _ _ _ _
  have k : ∀ b o, hp.get? b = some o → ((hp.push (W.kdv_tup rest)).push (excO C hp.objs.size)).get? b = some o := fun b o z => Heap.get?_push_of_some _ (Heap.get?_push_of_some _ z)
  have kC2 := k _ _ kC
  have ge : ((hp.push (W.kdv_tup rest)).push (excO C hp.objs.size)).get? (hp.objs.size + 1) = some (excO C hp.objs.size) := by heap_get
  have cc : (Value.ref C :: bm).contains (.ref C) = true := by simp
  have i2 := ki.keeps k
  have b2 := (kb (.ref (hp.objs.size + 1))).keeps k
  unfold isInstance
  repeat (first | with_reducible refine wpAny_loadPart_at ge ?_ | (with_reducible refine wpAny_isSubtype_exc kC2 ?_; rw [cc]) | wp_step)
  show wpAny _ _ (typeLookup (.ref C) _) _ _ _
  refine i2.at ?_
  refine wpAny_holding (wpAny_bind (b2.at ?_))
  refine wpAny_bind (wpAny_call (codeAny_mono q fun r s' z => ?_))
  rcases r with e | (v | _ | _ | _) <;> first | exact z | exact z.elim | skip
  obtain ⟨rfl, z⟩ := z
  first
    | exact wpAny_pure (wpAny_pure z)
    | (wp_walk; exact z)
theorem x_call {rest : List Value} {kw : List (Str × Value)} {fI : Addr} (kC : hp.get? C = some (excClassObj nm qn C ns bs bm hd sn sub ab col dd c0 c1 c2 c3 c5 newId))
    (ki : W.Looks (model prog w) hp (typeLookup (.ref C) "__init__") (some (.ref fI))) (kb : ∀ self, W.Looks (model prog w) hp (bindSpecial (.ref fI) self) (.ref fI, [self])) (hr : rest.length ≤ sizeLine)
    (q : codeAny (model prog w) (A.under (.builtin "type.__call__" ⟨.ref C :: rest, kw⟩)) (.call (.ref fI) ⟨.ref (hp.objs.size + 1) :: rest, kw⟩) (W.InitBack (hp.objs.size + 1) R) ⟨(hp.push (W.kdv_tup rest)).push (excO C hp.objs.size), gs, dr, tk, os⟩) :
    codeAny (model prog w) A (.call (.ref C) ⟨rest, kw⟩) R ⟨hp, gs, dr, tk, os⟩ := by
  have f1 := tc_lookup
  have f2 := tc_bind (.ref C)
  have hTy : (⟨hp, gs, dr, tk, os⟩ : Shared).TypeIs (.ref C) "type" := ⟨_, kC, rfl⟩
  refine codeAny_of_tree ?_
  show wpAny _ _ (callAny (.ref C) _) _ _ _
  repeat (any_goals (first | assumption | with_reducible refine wpAny_loadPart_at kC ?_ | wp_step))
  refine ⟨rfl, ?_⟩
  refine codeAny_call_builtin_at (Code.quiet_builtin _ (by decide +kernel)) entry_typeCall (wpAny_check_type_call_sub kC (x_type_call T kC ki kb hr ?_))
  refine codeAny_mono q fun r s' z => ?_
  rcases r with e | (v | _ | _ | _) <;> exact z
theorem x_init {e t0 : Addr} {rest : List Value} (kC : hp.get? C = some (excClassObj nm qn C ns bs bm hd sn sub ab col dd c0 c1 c2 c3 c5 newId)) (ke : hp.get? e = some (excO C t0)) (hr : rest.length ≤ sizeLine)
    (q : ∀ h' t1, (∀ b o, b ≠ e → hp.get? b = some o → h'.get? b = some o) → h'.get? e = some (excO C t1) → R (.ok (.ret .none)) ⟨h', gs, dr, tk, os⟩) :
    codeAny (model prog w) A (.call (.builtin initId) ⟨.ref e :: rest, []⟩) R ⟨hp, gs, dr, tk, os⟩ := by
  refine codeAny_call_builtin T.iPlain.plain T.iEntry (x_chk_init T kC ke rfl ?_)
  wp_walk
  refine q _ hp.objs.size (fun b o hb ho => ?_) ?_
  · rw [Heap.get?_update_other _ _ (Ne.symm hb)]
    exact Heap.get?_push_of_some _ ho
  · rw [Heap.get?_update_self _ (Heap.get?_push_of_some _ ke) rfl]
    rfl
end
section
variable {B nB newId initId iN : String} {bn bm : List Value} (T : XB B nB newId initId iN bn bm)
variable {prog : Program} {w : World} {A : Around} {E : Value → Shared → Prop} {R : Result → Shared → Prop} {hp : Heap} {gs : Array GenState} {dr : Drawn} {tk : Nat} {os : OsState}
include T
/-- the first field of an exception -/
theorem x_store {K : W.Frag} {name : Str} {tx : Tok} {v : Value} {x C : Addr} {fv : Array Value} {cd : ClassData} (X : K.In hp) (kx : hp.get? x = some { cls := .ref C, data := .fields fv }) (kd : W.clsIn K C = some cd) (km : cd.mro = .ref C :: bm) (kh : cd.hasDict = true)
    (ka : W.findIn K (.ref C) name = some none)
    (q : ∀ h' tk' dx, (∀ b o, b ≠ x → hp.get? b = some o → h'.get? b = some o) → hp.objs.size ≤ dx → dx ≠ x → h'.get? x = some { cls := .ref C, dict := some dx, data := .fields fv } → h'.Ns1 dx (fun y => if y = name then some v else none) → R (.ok (.ret .none)) ⟨h', gs, dr, tk', os⟩) :
    codeAny (model prog w) A (.call (.builtin "object.__setattr__") ⟨[.ref x, .str name tx, v], []⟩) R ⟨hp, gs, dr, tk, os⟩ := by
  have I : W.InstAt hp x { cls := .ref C, data := .fields fv } C none := ⟨kx, rfl, rfl, trivial⟩
  have SF := F.store_object
  have ne : cd.mro.isEmpty = false := by rw [km]; rfl
  have ob : cd.mro.contains (.type "object") = true := by rw [km, List.contains_cons, T.cO, Bool.or_true]
  have xs : x ≠ hp.objs.size := Nat.ne_of_lt (Heap.lt_size kx)
  have sub : W.Looks (model prog w) hp (isInstance (.ref x) (.type "object")) true := I.type.andThen (W.looks_mroIn X (by unfold W.mroIn; rw [kd, Option.bind_some, if_neg (by rw [ne]; decide), ob]))
  refine codeAny_call_builtin SF.slot.plain SF.entry (@W.check_slot (model prog w) _ _ ⟨hp, gs, dr, tk, os⟩ "object.__setattr__" "object" "__setattr__" (.ref x) [.str name tx, v] [] _ SF.kind SF.split sub (SF.args (.ref x) (.str name tx) v) ?_)
  have mr : W.Looks (model prog w) hp (mroOf (.ref C)) cd.mro := (W.looks_clsIn X kd).andThen .now
  have L3 : W.Looks (model prog w) hp (storeTaker? none) none := .now
  have cls : W.Looks (model prog w) hp (classData C) cd := W.looks_clsIn X kd
  rw [W.osa_eq, refuse_eq]
  refine wpAny_bind (wpAny_bind (I.type.at (wpAny_bind (mr.at ?_))))
  rw [km, refuseLoop_ref, T.pass]
  refine wpAny_pure (wpAny_bind (I.type.at (wpAny_bind ((W.looks_findIn X ka).at (wpAny_bind (L3.at ?_))))))
  show wpAny _ _ (storeInOwnDict (.ref x) (.ref C) (.str name tx) name v false) _ _ _
  obtain ⟨nm, bs, mro, nsa, qn, hdd, sn, sb, ab, col, del⟩ := cd
  dsimp only at kh
  subst kh
  unfold storeInOwnDict ownDictForStores
  repeat (first | with_reducible refine store_in_new ?_ ?_ | with_reducible refine wpAny_loadPart_at kx ?_ | with_reducible refine cls.at ?_ | wp_step)
  · exact ⟨_, #[], _, (Heap.get?_update_ne _ _ _ _ xs.symm).trans (Heap.get?_push_at rfl rfl), rfl, fun e he => absurd he (by simp), fun _ => rfl⟩
  · intro h' tk' hn' hs
    have kx1 : (hp.push { cls := .type "dict", data := .dict #[] }).get? x = some { cls := .ref C, data := .fields fv } := Heap.get?_push_of_some _ kx
    refine q h' tk' hp.objs.size (fun b o hb ho => ?_) (Nat.le_refl _) xs.symm ?_ hn'
    · exact (hs.2 b (Nat.ne_of_lt (Heap.lt_size ho))).trans ((Heap.get?_update_ne _ _ _ _ hb).trans (Heap.get?_push_of_some _ ho))
    · exact (hs.2 x xs).trans (Heap.get?_update_self _ kx1 rfl)
end
end PiX

end
section
set_option linter.all false
set_option maxRecDepth 100000
set_option maxHeartbeats 4000000
/-! PiY: own exceptions: made, raised, caught and kept, read, asked for their class. -/
namespace Pi
open PySem PySem.Spec PyProof.Rows L2
/-- what the top says of the class c at C: it stands over B, its __init__ at fI gives it the field f -/
structure XCls (K : PySem.W.Frag) (C fI : Addr) (f : Str) (B initId : String) : Prop where
  base : ∃ nB newId iN bn bm nm q N bs sn sub ab col dd k0 k1 k2 k3 k5, PiX.XB B nB newId initId iN bn bm ∧ K.lookup C = some (excClassObj nm q C N bs bm true sn sub ab col dd k0 k1 k2 k3 k5 newId)
  vV : PySem.W.findCls K (.type B) (.type "type") "__init__" = some (.val (.builtin initId))
  sa : PySem.W.findIn K (.ref C) "__setattr__" = some (some (.builtin "object.__setattr__"))
  ga : PySem.W.findIn K (.ref C) "__getattribute__" = some (some (.builtin "BaseException.__getattribute__"))
  gg : PySem.W.findIn K (.ref C) "__getattr__" = some none
  cl : PySem.W.findIn K (.ref C) "__class__" = some (some (.builtin "object.__class__"))
  exC : PySem.W.subIn K (.ref C) (.type "BaseException") = some true
  tyC : PySem.W.typeIn K (.ref C) = some (.type "type")
  kC : PySem.W.keepIn K (.ref C) = true
  hd : PySem.W.hasDictIn K C = true
  noF : PySem.W.findIn K (.ref C) f = some none
  iC : PySem.W.findIn K (.ref C) "__init__" = some (some (.ref fI))
  tI : PySem.W.typeIn K (.ref fI) = some (.type "function")
  gs : PySem.W.specialIn K (.builtin "object.__class__") "__get__" = some (some (.builtin "getset_descriptor.__get__"))
  tk : PySem.W.takesIn K (.builtin "object.__class__") = some true
  mo : PySem.W.mroIn K C (.type "object") = some true
section
variable {X : Cx} {pins : List (Addr × Obj)} {σ : L2.St} {H : Hp} {s : Shared} {a C fI dx : Addr} {f : Str} {B initId : String} {y : V} {u : Value} {Q : Unit → Shared → Prop} {E : Value → Shared → Prop} {A : Around}
/-- self.f = y -/
theorem xst_new (T : XCls X.K C fI f B initId) (I : Inv X pins σ H s) (e : H a = some (exo a C none)) (ry : RelV y u)
    (h : ∀ dx s', H dx = none → dx ≠ a → Inv X pins σ (upd (upd H dx (exd dx [(f, y)])) a (exo a C (some dx))) s' → Q () s') : wpAny (model X.prog X.w) A (setAttr (.ref a) f u) Q E s := by
  obtain ⟨nB, newId, iN, bn, bm, nm, q, N, bs, sn, sub, ab, col, dd, k0, k1, k2, k3, k5, XF, hC⟩ := T.base
  have kd : PySem.W.clsIn X.K C = some { name := nm, bases := bs, mro := .ref C :: bm, ns := N, qualname := q, hasDict := true, slotNames := sn, subclasses := sub, abstract := ab, collection := col, hasDel := false } := by unfold PySem.W.clsIn; rw [hC] <;> rfl
  obtain ⟨t1, ho⟩ := exo_at I.hok e
  obtain ⟨hp, g, d, t, os⟩ := s
  refine PySem.W.set_plain I.kIn (ox := PySem.HandSPX.excO C t1) (od := none) ⟨ho, rfl, rfl, trivial⟩ T.sa ?_
  refine PiX.x_store XF I.kIn ho kd rfl rfl T.noF (fun h' tk' dx k dn dne hx hn => ?_)
  have hnd : H dx = none := I.hok.fresh dn
  have n1 : ∀ {b : Addr} {o : Obj}, hp.get? b = some o → b ≠ dx := fun {b o} z => Nat.ne_of_lt (Nat.lt_of_lt_of_le (Heap.lt_size z) dn)
  have n2 : ∀ {b : Addr}, H b = none → b ≠ a := fun {b} n z => by
    rw [z, e] at n
    cases n
  have U : Un X.fs [] H (upd (upd H dx (exd dx [(f, y)])) a (exo a C (some dx))) hp h' := ⟨fun b o z n _ _ => k b o (n2 n) z, fun b o z n _ _ => ⟨o.slots, k b o (n2 n) z⟩, fun b o z n _ => by rw [upd_ne (n2 n), upd_ne (n1 z)]; exact n, fun b o z _ => by
      by_cases hb : b = a
      · exact ⟨_, by rw [hb]; exact hx⟩
      · exact ⟨o, k b o hb z⟩, fun b xs z => by rw [upd_ne (at_ne e z exo_tup), upd_ne (ne_of_none z hnd)]; exact z, fun b o v z => by rw [upd_ne (at_ne e z exo_frz), upd_ne (ne_of_none z hnd)]; exact z,
      fun b ps z => ⟨#[], by rw [upd_ne (at_ne e z exo_tbl), upd_ne (ne_of_none z hnd), z]; simp⟩⟩
  refine h dx _ hnd dne (I.un (t' := tk') U fun b o z => ?_)
  by_cases hb : b = a
  · subst hb
    rw [upd_same] at z
    cases z
    exact exo_ok hx
  · rw [upd_ne hb] at z
    by_cases hd : b = dx
    · subst hd
      rw [upd_same] at z
      cases z
      exact exd_ok hn (relO_put (fs := []) ry fun g => True.intro)
    · rw [upd_ne hd] at z
      exact (I.hok b o z).stay (fun c v hc z' => k c v (by
          rcases hc with hc | hc
          · rw [hc]
            exact hb
          · exact at_ne e hc exo_own) z')
        (fun c hc => by rw [upd_ne (at_ne e hc exo_own), upd_ne (ne_of_none hc hnd)]; exact hc) (fun c xs hc => by rw [upd_ne (at_ne e hc exo_tup), upd_ne (ne_of_none hc hnd)]; exact hc)
/-- B.__init__(self, ..) -/
theorem xinit_ok {us : List Value} {Q : Value → Shared → Prop} (T : XCls X.K C fI f B initId) (I : Inv X pins σ H s) (e : H a = some (exo a C none)) (hl : us.length ≤ sizeLine) (h : ∀ s', Inv X pins σ H s' → Q .none s') :
    wpAny (model X.prog X.w) A (call (.builtin initId) (.ref a :: us)) Q E s := by
  obtain ⟨nB, newId, iN, bn, bm, nm, q, N, bs, sn, sub, ab, col, dd, k0, k1, k2, k3, k5, XF, hC⟩ := T.base
  obtain ⟨t1, ho⟩ := exo_at I.hok e
  obtain ⟨hp, g, d, t, os⟩ := s
  refine wpAny_call (PiX.x_init XF (I.kIn _ _ hC) ho hl fun h' t2 k hx => ?_)
  have J := I.write (t' := t) (x := a) (e := a) (o := exo a C none) (by rw [e]; exact True.intro) (.inl rfl) k ⟨_, hx⟩ (exo_ok hx)
  have eu : upd H a (exo a C none) = H := funext fun b => by
    by_cases hb : b = a
    · rw [hb, upd_same, e]
    · rw [upd_ne hb]
  rw [eu] at J
  exact h _ J
end
/-- what __init__ promises -/
def spI (C : Addr) (f : Str) : Sp := fun vs H Q _ => ∃ (a : Addr) (y : V), vs = [.ref a, y] ∧ H a = some (exo a C none) ∧ ∀ dx, H dx = none → dx ≠ a → Q .non (upd (upd H dx (exd dx [(f, y)])) a (exo a C (some dx)))
section
variable {X : Cx} {e : Expr} {es : List Expr} {ta : TA} {C fI : Addr} {f : Str} {B initId : String} {p p1 p2 pos : Pos}
def tXi (C : Addr) (ta : TA) : TE := fun σ H Q => ta σ H fun vs H1 => ∃ (a : Addr) (ws : List V), vs = .ref a :: ws ∧ ws.length ≤ 1000 ∧ H1 a = some (exo a C none) ∧ Q .non H1
theorem pe_xinit (T : XCls X.K C fI f B initId) (hg : Gl X (B : Str)) (hm : X.mg (B : Str) = none) (ha : PA X (e :: es) ta)
    (hbase : attributeBase (.Name (B : Str) p1) "__init__" X.env (eval (.Name (B : Str) p1) X.env) = eval (.Name (B : Str) p1) X.env)
    (hfew : ((backTo pos (starEach (e :: es) X.env)).all (fun x => !x.1) && (backToKw pos (keywordEach [] X.env)).all (fun x => x.1.isSome) && decide ((e :: es).length + ([] : List Keyword).length + (if ([] : List Keyword).isEmpty then 0 else 1) < 30)) = true)
    (hline : (p2.endLine == pos.line) = true) (he : starEach (e :: es) X.env = (false, eval e X.env) :: starEach es X.env) (hpl : (backTo pos (starEach es X.env)).any (·.1) = false) :
    PE X (.Call (.Attribute (.Name (B : Str) p1) "__init__" p2) (e :: es) [] pos) (tXi C ta) := by
  obtain ⟨nB, newId, iN, bn, bm, nm, q, N, bs, sn, sub, ab, col, dd, k0, k1, k2, k3, k5, XF, hC⟩ := T.base
  refine ⟨fun pins s σ H Q I h => ?_⟩
  rw [arm_eval_Call, hbase]
  refine wpAny_bind (ld_blt I hg hm XF.boot ?_ XF.nn XF.nd)
  refine wpAny_bind (wpAny_standAt ?_)
  have hform : methodCallForm ((e :: es).length + ([] : List Keyword).length) (backTo pos (starEach (e :: es) X.env)) (backToKw pos (keywordEach [] X.env)) = true := hfew
  have hpos : methodCallPos true (.Name (B : Str) p1) X.env p2 pos = pure pos := by unfold methodCallPos; simp [hline]
  unfold methodCall
  rw [hform]
  obtain ⟨m, fr⟩ := I.fr
  refine wpAny_bind (wpAny_holding ?_)
  show wpAny _ _ (getMethod (.type B) "__init__" _) _ _ _
  refine PySem.W.method_type fr I.ok.mod.kin XF.ty XF.stub T.vV XF.hin ?_
  refine wpAny_bind (wpAny_of_eq hpos ?_)
  show wpAny _ _ (callWith pos (Value.builtin initId) [] (backTo pos (starEach (e :: es) X.env)) []) _ _ _
  refine PyProof.Rows.callWith_method1 (thn (ha.run pos pins _ σ H _ (I.tok _) h) fun us s1 hh => ?_) he hpl
  obtain ⟨vs, H1, I1, r1, a, ws, ev, hl, ea, q⟩ := hh
  subst ev
  cases r1 with
  | @cons _ u0 _ ur ra rw' =>
    obtain rfl : u0 = Value.ref a := ra
    have hlen : ur.length ≤ sizeLine := by
      rw [← Paired.length rw', sizeLine_eq]
      omega
    exact xinit_ok T I1 ea hlen fun s' J => ⟨.non, H1, J, rfl, q⟩
end

section
variable {X : Cx} {o e : Expr} {to te : TE} {C fI : Addr} {f : Str} {B initId : String} {p' pos : Pos}
def tXs (C : Addr) (f : Str) (to te : TE) : TS := fun D σ H => te σ H fun y H1 => to σ H1 fun x H2 => ∃ a : Addr, x = .ref a ∧ H2 a = some (exo a C none) ∧ ∀ dx, H2 dx = none → dx ≠ a → D.nx σ (upd (upd H2 dx (exd dx [(f, y)])) a (exo a C (some dx)))
theorem ps_xst (T : XCls X.K C fI f B initId) (ho : PE X o to) (he : PE X e te) (hs : swapsWith e (some (.Attribute o f p')) pos.line X.env = pure false) : PS X (.Assign [.Attribute o f p'] e pos) (tXs C f to te) := by
  refine ⟨fun pins s σ H D I h => ?_⟩
  refine plainObj_wpAny_Assign_Attribute (thn (he.run pins s σ H _ I h) fun v s1 z1 => ?_) hs
  obtain ⟨y, H1, I1, r1, q1⟩ := z1
  refine thn (ho.run pins s1 σ H1 _ I1 q1) fun u s2 z2 => ?_
  obtain ⟨x, H2, I2, r2, a, ex, ea, q⟩ := z2
  subst ex
  obtain rfl : u = Value.ref a := r2
  exact xst_new T I2 ea r1 fun dx s' n ne J => ⟨σ, _, J, q dx n ne⟩
end
/-- __init__, whatever its places in the text -/
theorem init_fn {P : Program} {w : World} {K : PySem.W.Frag} {mg : Str → Option Value} {base : Heap} {CX : CXT} {C fI : Addr} {f : Str} {B initId : String} {qual : Str} {params : Arguments} {scope : Scope} {fd : FuncData} {j : Nat} {p1 p2 p3 p4 p5 p6 p7 p8 p9 pos pos2 : Pos} {m : Str}
    (T : XCls K C fI f B initId) (hB : mg (B : Str) = none) (F : FunD K "__init__" qual params [.Expr (.Call (.Attribute (.Name (B : Str) p1) "__init__" p2) [.Name "self" p3, .Constant (.str m) j p4] [] pos) p5, .Assign [.Attribute (.Name "self" p6) f p7] (.Name f p8) pos2] scope [] [] fI fd)
    (S : FnScope ["self", f] ["self", f] scope) (hg : scope.names.lookup (B : Str) = some .globalImplicit) (hd1 : ((B : Str) == ("__debug__" : Str)) = false)
    (h0 : Vis scope "self") (h1 : Vis scope f) (hf1 : (f == ("__debug__" : Str)) = false) (hf2 : (f == ("__classdict__" : Str)) = false) (hline : (p2.endLine == pos.line) = true) :
    FnOk P w K mg base CX 1 fI fd ["self", f] (spI C f) := by
  refine F.ok S (fun vs H Q E q => by obtain ⟨a, y, rfl, _⟩ := q; rfl) fun cdv A outer s H vs Q E hr q => ?_
  obtain ⟨a, y, rfl, ha, q⟩ := q
  refine ⟨_, pss_cons (ps_expr (pe_xinit (B := B) (f := f) (X := cxOf CX P w K mg base ["self", f] qual scope fI cdv A outer s H E) T hg hB (pa_cons (pe_var (i := 0) (x := "self") rfl h0 (by decide) (by decide)) (pa_cons pe_str pa_nil)) (by rfl) (by rfl) hline (by rfl) (by rfl)) (by rfl))
    (pss_one (ps_xst (X := cxOf CX P w K mg base ["self", f] qual scope fI cdv A outer s H E) T (pe_var (i := 0) (x := "self") rfl h0 (by decide) (by decide)) (pe_var (i := 1) (x := f) rfl h1 hf1 hf2) (by rfl))), ?_⟩
  refine ⟨_, rfl, a, [.str m], rfl, by simp, ha, _, rfl, _, rfl, a, rfl, ha, fun dx n ne => q dx n ne⟩

section
variable {X : Cx} {C fI : Addr} {f : Str} {B initId : String}
/-- c(e): a new exception with its dict -/
def tMkX (C : Addr) (f : Str) (ta : TA) : L2.St → Hp → XK → Prop := fun σ H Q => ta σ H fun vs H1 => ∃ y : V, vs = [y] ∧ ∀ d, H1 d = none → Q (.ref C) (some d) (upd H1 d (.xd [(f, y)]))
theorem mk_upd {H1 H2 : Hp} {a d : Addr} {o1 o2 o3 o4 : HO} (ha : H1 a = none) (e : H2 = upd (upd (upd H1 a o1) d o2) a o3) (n : d ≠ a) : upd (del H2 a) d o4 = upd H1 d o4 := by
  subst e
  funext b
  by_cases hb : b = d
  · rw [hb, upd_same, upd_same]
  · rw [upd_ne hb, upd_ne hb]
    by_cases h2 : b = a
    · rw [h2, del_same, ha]
    · rw [del_ne h2, upd_ne h2, upd_ne hb, upd_ne h2]
theorem pmk_x {CX : CXT} {x : Str} {k : Nat} {fd : FuncData} {e : Expr} {ta : TA} {p pos : Pos} (T : XCls X.K C fI f B initId) (F1 : FnOk X.prog X.w X.K X.mg X.base CX k fI fd ["self", f] (spI C f)) (hr : Room (k + 1) X.A) (hb : Binds X.K fd ["self", f] [])
    (hx : Passes CX X (fun _ _ _ => False)) (hg : Gl X x) (hm : X.mg x = some (.ref C)) (ha : PA X [e] ta) (hdb : (x == ("__debug__" : Str)) = false) (he : starEach [e] X.env = (false, eval e X.env) :: starEach [] X.env) :
    PMk X (.Call (.Name x p) [e] [] pos) (tMkX C f ta) := by
  intro pins s σ H Q I h
  obtain ⟨nB, newId, iN, bn, bm, nm, q, N, bs, sn, sub, ab, col, dd, k0, k1, k2, k3, k5, XF, hC⟩ := T.base
  refine wpAny_Call_Name_kw (ld_glob I hg hm ?_ hdb)
  refine PySem.W.callWith_K (h₀ := X.base) I.ok.mod.kin T.kC (thn (ha.run pos pins s σ H _ I h) fun us s1 hh => ?_) he rfl
  obtain ⟨vs, H1, I1, r1, y, rfl, q1⟩ := hh
  refine ⟨I1.kIn, ?_⟩
  show wpAny _ _ (call (.ref C) us) _ _ _
  obtain ⟨hp, g, dr, tk, os⟩ := s1
  have sz : hp.objs.size ≤ hp.objs.size + 1 := Nat.le_succ _
  have hn : H1 (hp.objs.size + 1) = none := I1.hok.fresh sz
  have hn2 : ∀ d, upd H1 (hp.objs.size + 1) (exo (hp.objs.size + 1) C none) d = none → H1 d = none := fun d z => by
    by_cases hd : d = hp.objs.size + 1
    · rw [hd]; exact hn
    · rw [upd_ne hd] at z; exact z
  have kk : ∀ b o, hp.get? b = some o → ((hp.push (PySem.W.kdv_tup us)).push (PySem.HandSPX.excO C hp.objs.size)).get? b = some o := fun b o z => Heap.get?_push_of_some _ (Heap.get?_push_of_some _ z)
  have ge : ((hp.push (PySem.W.kdv_tup us)).push (PySem.HandSPX.excO C hp.objs.size)).get? (hp.objs.size + 1) = some (PySem.HandSPX.excO C hp.objs.size) := by heap_get
  have I2 := I1.laid (t' := tk) (a := hp.objs.size + 1) (o := exo (hp.objs.size + 1) C none) kk sz (exo_ok ge)
  have r2 : Vals [V.ref (hp.objs.size + 1), y] (Value.ref (hp.objs.size + 1) :: us) := .cons rfl r1
  have hus : us.length ≤ sizeLine := by
    rw [← Paired.length r1, sizeLine_eq]
    simp
  have hl2 : (Value.ref (hp.objs.size + 1) :: us ++ []).length = (["self", f] : List Str).length := by
    rw [List.append_nil, ← r2.length]
    rfl
  have hbb := hb ⟨(hp.push (PySem.W.kdv_tup us)).push (PySem.HandSPX.excO C hp.objs.size), g, dr, tk, os⟩ (Value.ref (hp.objs.size + 1) :: us) I2.kIn hl2
  rw [List.append_nil] at hbb
  refine wpAny_call (PiX.x_call XF (I1.kIn _ _ hC) (PySem.W.looks_findIn I1.kIn T.iC) (fun self => PySem.W.bind_fn I1.kIn self T.tI) hus
    (codeAny_mono (F1.run _ X.stack _ _ ⟨Value.ref (hp.objs.size + 1) :: us, []⟩ (Value.ref (hp.objs.size + 1) :: us) _ (fun v H2 => v = .non ∧ ∃ (d : Addr), H2 = upd (upd (upd H1 (hp.objs.size + 1) (exo (hp.objs.size + 1) C none)) d (exd d [(f, y)])) (hp.objs.size + 1) (exo (hp.objs.size + 1) C (some d)) ∧ d ≠ hp.objs.size + 1 ∧ H1 d = none)
      (fun _ _ _ => False) (hr.make C us []) (I2.env0.make C us []) hbb r2 ⟨_, y, rfl, upd_same, fun dx n ne => ⟨rfl, dx, rfl, ne, hn2 dx n⟩⟩) fun r s' hq' => ?_))
  cases r with
  | error er => exact hx pins σ _ _ er s' I2 hq'
  | ok fl =>
    cases fl with
    | ret u =>
      obtain ⟨v, H2, os2, bare2, un2, hok2, rv, ev, d, e2, nd, hd1⟩ := hq'
      subst ev
      obtain ⟨h2, g2, d2, t2, os'⟩ := s'
      refine ⟨rv, mk_end (raises_own T.exC T.tyC) I1 sz kk un2 hok2 os2 bare2 (d := d) (fs := [(f, y)]) (by rw [e2, upd_same]) (by rw [e2, upd_ne nd, upd_same]) hd1 ?_⟩
      rw [mk_upd hn e2 nd]
      exact q1 d hd1
    | next => exact False.elim hq'
    | brk => exact False.elim hq'
    | cont => exact False.elim hq'
end
/-! ### an exception that is kept -/
theorem exb_ok {P : Program} {w : World} {H : Hp} {h : Heap} {a C d : Addr} {oe : Obj} {vs : Array Value} (e : h.get? a = some oe) (z : Zc (.ref C) (some d) oe) (hd : oe.data = .fields vs) : ObjOk P w H h a (exb a C d) :=
  ⟨⟨oe, vs, e, z, hd⟩, ⟨oe, e⟩, fun h1 h2 q k => by
    obtain ⟨o, v, q1, q2, q3⟩ := q
    exact ⟨o, v, k o q1, q2, q3⟩⟩
section
variable {X : Cx} {pins : List (Addr × Obj)} {σ : L2.St} {H : Hp} {s : Shared} {a C d : Addr}
theorem exb_at {P : Program} {w : World} {h : Heap} (hok : HOk P w H h) (he : H a = some (exb a C d)) : ∃ (oe : Obj) (vs : Array Value), h.get? a = some oe ∧ Zc (.ref C) (some d) oe ∧ oe.data = .fields vs := by
  have x : ObjOk P w H h a (.ext fun h => ∃ (oe : Obj) (vs : Array Value), h.get? a = some oe ∧ Zc (.ref C) (some d) oe ∧ oe.data = .fields vs) := hok a _ he
  exact x.1
/-- an object that no one held at the entry is told of -/
theorem Inv.adopt {oe : Obj} {vs : Array Value} (I : Inv X pins σ H s) (ha : s.heap.get? a = some oe) (z : Zc (.ref C) (some d) oe) (hd : oe.data = .fields vs) (na : H a = none) (n0 : X.s_0.heap.get? a = none) (nL : a ≠ X.env.locals) (np : ∀ p ∈ X.pn ++ pins, p.1 ≠ a) :
    Inv X pins σ (upd H a (exb a C d)) s := by
  have ne0 : ∀ b o, X.s_0.heap.get? b = some o → b ≠ a := fun b o e q => by
    rw [q, n0] at e
    cases e
  have neU : ∀ b u, H b = some u → b ≠ a := fun b u e => ne_of_none e na
  refine ⟨I.ok, I.os, I.bare, ⟨I.base.keep, I.base.slot, fun b o e n hq => ?_, I.base.there, fun b xs e => ?_, fun b o u e => ?_, fun b ps e => ?_⟩, I.loc, I.cell, ?_, fun x c e => ?_, fun p hp => ?_, fun b u e => ?_, I.len⟩
  · rw [upd_ne (ne0 b o e)]
    exact I.base.free b o e n hq
  · have q := I.base.tups b xs e
    rw [upd_ne (neU b _ q)]
    exact q
  · have q := I.base.frzs b o u e
    rw [upd_ne (neU b _ q)]
    exact q
  · obtain ⟨m, q⟩ := I.base.tbls b ps e
    exact ⟨m, by rw [upd_ne (neU b _ q)]; exact q⟩
  · rw [upd_ne (Ne.symm nL)]
    exact I.free
  · have hc : c ≠ a := fun q => by
      obtain ⟨v, o, ho, hv⟩ := I.cell x c e
      rw [q, ha] at ho
      cases ho
      rw [hd] at hv
      cases hv
    rw [upd_ne hc]
    exact I.freeC x c e
  · obtain ⟨e, n, ne, nf, dd⟩ := I.pin p hp
    exact ⟨e, by rw [upd_ne (np p hp)]; exact n, ne, nf, dd⟩
  · by_cases hb : b = a
    · subst hb
      rw [upd_same] at e
      cases e
      exact exb_ok ha z hd
    · rw [upd_ne hb] at e
      exact (I.hok b u e).stay (fun c v _ q => q) (fun c q => by rw [upd_ne (neU c _ q)]; exact q) fun c xs q => by rw [upd_ne (neU c _ q)]; exact q
end


/-! ### an exception as a value -/
section
variable {X : Cx} {C fI : Addr} {f : Str} {B initId : String} {pins : List (Addr × Obj)} {σ : L2.St}
theorem xmk_end {H1 H2 : Hp} {hp hp2 h2 : Heap} {g1 g2 : Array GenState} {d1 d2 : Drawn} {t1 t2 : Nat} {os1 os2 : OsState} {a d : Addr} {y : V} (I1 : Inv X pins σ H1 ⟨hp, g1, d1, t1, os1⟩) (ha : hp.objs.size ≤ a) (k : ∀ b o, hp.get? b = some o → hp2.get? b = some o)
    (un : Un (frs X.stack) [] (upd H1 a (exo a C none)) H2 hp2 h2) (hok : HOk X.prog X.w H2 h2) (ho : os2 = os1) (hb : AllBare g2) (e2 : H2 = upd (upd (upd H1 a (exo a C none)) d (exd d [(f, y)])) a (exo a C (some d))) (nd : d ≠ a) (hd1 : H1 d = none) :
    Inv X pins σ (upd (upd H1 d (.xd [(f, y)])) a (exb a C d)) ⟨h2, g2, d2, t2, os2⟩ := by
  have hn : H1 a = none := I1.hok.fresh ha
  have ea : H2 a = some (exo a C (some d)) := by rw [e2, upd_same]
  have ed : H2 d = some (exd d [(f, y)]) := by rw [e2, upd_ne nd, upd_same]
  have eo : ∀ b, b ≠ a → b ≠ d → H2 b = H1 b := fun b h1 h2 => by rw [e2, upd_ne h1, upd_ne h2, upd_ne h1]
  obtain ⟨t0, hoe⟩ := exo_at hok ea
  obtain ⟨mA, hns, rel⟩ := exd_at hok ed
  have nha : ∀ {b : Addr} {o : Obj}, hp.get? b = some o → b ≠ a := fun {b o} z => Nat.ne_of_lt (Nat.lt_of_lt_of_le (Heap.lt_size z) ha)
  have up : ∀ {b : Addr}, b ≠ a → H1 b = none → upd H1 a (exo a C none) b = none := fun {b} h n => by rw [upd_ne h]; exact n
  have nhd : ∀ {b : Addr} {o : Obj}, hp.get? b = some o → H1 b = none → b ≠ d := fun {b o} z n e => by
    have q := un.free b o (k b o z) (up (nha z) n) (by simp)
    rw [e, ed] at q
    cases q
  have g3 : ∀ {b : Addr} {o : HO}, H1 b = some o → upd (upd H1 d (.xd [(f, y)])) a (exb a C d) b = some o := fun {b o} z => by rw [upd_ne (ne_of_none z hn), upd_ne (ne_of_none z hd1)]; exact z
  have U : Un (frs X.stack) [] H1 (upd (upd H1 d (.xd [(f, y)])) a (exb a C d)) hp h2 := ⟨fun b o z n hf hx => un.keep b o (k b o z) (up (nha z) n) hf hx, fun b o z n hf hx => un.slot b o (k b o z) (up (nha z) n) hf hx,
    fun b o z n hx => by rw [upd_ne (nha z), upd_ne (nhd z n)]; exact n, fun b o z hx => un.there b o (k b o z) hx, fun b xs z => g3 z, fun b o v z => g3 z, fun b ps z => ⟨#[], by rw [g3 z]; simp⟩⟩
  refine I1.call' (ch := []) ho U (fun b o z => ?_) hb (fun b z => absurd z (by simp))
  by_cases hba : b = a
  · subst hba
    rw [upd_same] at z
    cases z
    exact exb_ok hoe ⟨rfl, rfl⟩ rfl
  · rw [upd_ne hba] at z
    by_cases hbd : b = d
    · subst hbd
      rw [upd_same] at z
      cases z
      exact ⟨mA, hns, rel⟩
    · rw [upd_ne hbd] at z
      exact (hok b o (by rw [eo b hba hbd]; exact z)).stay (fun c v _ q => q) (fun c q => by
          have h1 : c ≠ a := at_ne ea q exo_own
          have h2 : c ≠ d := at_ne ed q exd_own
          rw [eo c h1 h2] at q
          exact g3 q) fun c xs q => by
          have h1 : c ≠ a := at_ne ea q exo_tup
          have h2 : c ≠ d := at_ne ed q exd_tup
          rw [eo c h1 h2] at q
          exact g3 q
theorem xmk_run {CX : CXT} {k : Nat} {fd : FuncData} {s1 : Shared} {H1 : Hp} {Q : VK} {us : List Value} {kw : List (Str × Value)} {y : V} {u : Value} (T : XCls X.K C fI f B initId) (F1 : FnOk X.prog X.w X.K X.mg X.base CX k fI fd ["self", f] (spI C f)) (hr : Room (k + 1) X.A)
    (hx : Passes CX X (fun _ _ _ => False)) (I1 : Inv X pins σ H1 s1) (ry : RelV y u) (hus : us.length ≤ sizeLine) (hb : ∀ (s : Shared) (self : Value), X.K.In s.heap → BindsTo s fd ⟨self :: us, kw⟩ [("self", self), (f, u)])
    (q : ∀ a d, H1 a = none → H1 d = none → d ≠ a → Q (.ref a) (upd (upd H1 d (.xd [(f, y)])) a (exb a C d))) : wpAny (model X.prog X.w) X.A (call (.ref C) us kw) (EP X pins σ Q) X.xe s1 := by
  obtain ⟨nB, newId, iN, bn, bm, nm, qn, N, bs, sn, sub, ab, col, dd, k0, k1, k2, k3, k5, XF, hC⟩ := T.base
  obtain ⟨hp, g, dr, tk, os⟩ := s1
  have sz : hp.objs.size ≤ hp.objs.size + 1 := Nat.le_succ _
  have hn : H1 (hp.objs.size + 1) = none := I1.hok.fresh sz
  have hn2 : ∀ d, upd H1 (hp.objs.size + 1) (exo (hp.objs.size + 1) C none) d = none → H1 d = none := fun d z => by
    by_cases hd : d = hp.objs.size + 1
    · rw [hd]; exact hn
    · rw [upd_ne hd] at z; exact z
  have kk : ∀ b o, hp.get? b = some o → ((hp.push (PySem.W.kdv_tup us)).push (PySem.HandSPX.excO C hp.objs.size)).get? b = some o := fun b o z => Heap.get?_push_of_some _ (Heap.get?_push_of_some _ z)
  have ge : ((hp.push (PySem.W.kdv_tup us)).push (PySem.HandSPX.excO C hp.objs.size)).get? (hp.objs.size + 1) = some (PySem.HandSPX.excO C hp.objs.size) := by heap_get
  have I2 := I1.laid (t' := tk) (a := hp.objs.size + 1) (o := exo (hp.objs.size + 1) C none) kk sz (exo_ok ge)
  have r2 : Vals [V.ref (hp.objs.size + 1), y] [Value.ref (hp.objs.size + 1), u] := .cons rfl (.cons ry .nil)
  have hbb := hb ⟨(hp.push (PySem.W.kdv_tup us)).push (PySem.HandSPX.excO C hp.objs.size), g, dr, tk, os⟩ (Value.ref (hp.objs.size + 1)) I2.kIn
  refine wpAny_call (PiX.x_call XF (I1.kIn _ _ hC) (PySem.W.looks_findIn I1.kIn T.iC) (fun self => PySem.W.bind_fn I1.kIn self T.tI) hus
    (codeAny_mono (F1.run _ X.stack _ _ ⟨Value.ref (hp.objs.size + 1) :: us, kw⟩ [Value.ref (hp.objs.size + 1), u] _ (fun v H2 => v = .non ∧ ∃ (d : Addr), H2 = upd (upd (upd H1 (hp.objs.size + 1) (exo (hp.objs.size + 1) C none)) d (exd d [(f, y)])) (hp.objs.size + 1) (exo (hp.objs.size + 1) C (some d)) ∧ d ≠ hp.objs.size + 1 ∧ H1 d = none)
      (fun _ _ _ => False) (hr.make C us kw) (I2.env0.make C us kw) hbb r2 ⟨_, y, rfl, upd_same, fun dx n ne => ⟨rfl, dx, rfl, ne, hn2 dx n⟩⟩) fun r s' hq' => ?_))
  cases r with
  | error er => exact hx pins σ _ _ er s' I2 hq'
  | ok fl =>
    cases fl with
    | ret u2 =>
      obtain ⟨v, H2, os2, bare2, un2, hok2, rv, ev, d, e2, nd, hd1⟩ := hq'
      subst ev
      obtain ⟨h2, g2, d2, t2, os'⟩ := s'
      exact ⟨rv, .ref (hp.objs.size + 1), _, xmk_end I1 sz kk un2 hok2 os2 bare2 e2 nd hd1, rfl, q _ d hn hd1 nd⟩
    | next => exact False.elim hq'
    | brk => exact False.elim hq'
    | cont => exact False.elim hq'
def tXv (C : Addr) (f : Str) (ta : TA) : TE := fun σ H Q => ta σ H fun vs H1 => ∃ y : V, vs = [y] ∧ ∀ a d, H1 a = none → H1 d = none → d ≠ a → Q (.ref a) (upd (upd H1 d (.xd [(f, y)])) a (exb a C d))
theorem pe_xmk {CX : CXT} {x : Str} {k : Nat} {fd : FuncData} {e : Expr} {ta : TA} {p pos : Pos} (T : XCls X.K C fI f B initId) (F1 : FnOk X.prog X.w X.K X.mg X.base CX k fI fd ["self", f] (spI C f)) (hr : Room (k + 1) X.A) (hb : Binds X.K fd ["self", f] [])
    (hx : Passes CX X (fun _ _ _ => False)) (hg : Gl X x) (hm : X.mg x = some (.ref C)) (ha : PA X [e] ta) (hdb : (x == ("__debug__" : Str)) = false) (he : starEach [e] X.env = (false, eval e X.env) :: starEach [] X.env) : PE X (.Call (.Name x p) [e] [] pos) (tXv C f ta) := by
  refine ⟨fun pins s σ H Q I h => ?_⟩
  refine wpAny_Call_Name_kw (ld_glob I hg hm ?_ hdb)
  refine PySem.W.callWith_K (h₀ := X.base) I.ok.mod.kin T.kC (thn (ha.run pos pins s σ H _ I h) fun us s1 hh => ?_) he rfl
  obtain ⟨vs, H1, I1, r1, y, rfl, q1⟩ := hh
  refine ⟨I1.kIn, ?_⟩
  cases r1 with
  | @cons _ u _ ur ry rr =>
    cases rr
    refine xmk_run T F1 hr hx I1 ry (by rw [sizeLine_eq]; simp) (fun s self hk => ?_) q1
    have z := hb s [self, u] hk rfl
    exact z
theorem pe_xmkK {CX : CXT} {x : Str} {k : Nat} {fd : FuncData} {kws : List Keyword} {ta : TA} {p pos : Pos} (T : XCls X.K C fI f B initId) (F1 : FnOk X.prog X.w X.K X.mg X.base CX k fI fd ["self", f] (spI C f)) (hr : Room (k + 1) X.A) (hb : ∀ (s : Shared) (self u : Value), BindsTo s fd ⟨[self], [(f, u)]⟩ [("self", self), (f, u)])
    (hx : Passes CX X (fun _ _ _ => False)) (hg : Gl X x) (hm : X.mg x = some (.ref C)) (hkw : PK X kws ta) (hall : (backToKw pos (keywordEach kws X.env)).all (·.1.isSome) = true) (hks : (backToKw pos (keywordEach kws X.env)).filterMap (·.1) = [f])
    (hpl : ((backTo pos (starEach [] X.env)).any (·.1) || (backToKw pos (keywordEach kws X.env)).any (·.1.isNone)) = false) (hdb : (x == ("__debug__" : Str)) = false) : PE X (.Call (.Name x p) [] kws pos) (tXv C f ta) := by
  refine ⟨fun pins s σ H Q I h => ?_⟩
  refine wpAny_Call_Name_kw (ld_glob I hg hm ?_ hdb)
  refine PySem.W.callWith_KW0 (h₀ := X.base) I.ok.mod.kin T.kC hall (thn (hkw.run pos pins s σ H _ I h) fun ws s1 hh => ?_) hpl
  obtain ⟨vs, H1, I1, r1, y, rfl, q1⟩ := hh
  refine ⟨I1.kIn, ?_⟩
  rw [hks]
  cases r1 with
  | @cons _ u _ ur ry rr =>
    cases rr
    exact xmk_run T F1 hr hx I1 ry (Nat.zero_le _) (fun s self hk => hb s self u) q1
end
/-- what 'except x as n: y = n' wishes of an exception of the body: slot i is n's, slot j y's -/
def wKeep (K : PySem.W.Frag) (c : Value) (i j : Nat) (Wout : WX) (D : Ends) : WX := fun cls d σ H =>
  ∃ b, PySem.W.exmOne K cls c = some b ∧ (b = true → ∃ C dd : Addr, cls = .ref C ∧ d = some dd ∧ ∀ a, H a = none → D.nx (((σ.set i (some (.ref a))).set j (some (.ref a))).set i none) (upd H a (exb a C dd))) ∧ (b = false → Wout cls d σ H)
section
variable {X : Cx} {x n y : Str} {c : Value} {i j : Nat} {body : List Stmt} {np py pn2 pos pos' pos2 : Pos} {tb : WX → TS} {Wout : WX}
theorem ps_try_keep (hs : X.stack = X.env :: X.outer) (hf : X.env.frame = some X.env.locals) (hex : X.ex = []) (hN : X.N.Nodup) (hi : X.N[i]? = some n) (hln : X.env.kindOf n = some .local) (hsn : X.env.scope.names.lookup n = some .local) (hdn : (n == ("__debug__" : Str)) = false) (hcn : (n == ("__classdict__" : Str)) = false)
    (hj : X.N[j]? = some y) (hly : L2.Loc X.env.scope y) (hfy : X.fn y = true ∨ X.env.scope.names.lookup y = some .local) (hc : Names X x c) (tk : Takes X Wout)
    (hb : ∀ (W : WX) (pn : List (Addr × Obj)) (xe : Value → Shared → Prop), Takes (X.tr pn xe) W → PassesOwn (model X.prog X.w) X.A X.env xe → PSs (X.tr pn xe) body (tb W)) :
    PS X (.Try body [.ExceptHandler (some (.Name x np)) (some n) [.Assign [.Name y py] (.Name n pn2) pos2] pos'] [] [] pos) (fun D σ H => tb (wKeep X.K c i j Wout D) D σ H) := by
  refine ⟨fun pins s σ H D I h => ?_⟩
  have ok := I.ok
  have frm : X.A.frames = some (X.env :: X.outer) := by rw [ok.frames, hs]
  have lcn : Loc X.env.scope n := .inl hln
  refine wpAny_Try_except ?_
  refine wpAny_mono ((hb (wKeep X.K c i j Wout D) (X.pn ++ pins) (fun e t => wpAny (model X.prog X.w) X.A (noteFrame e X.env) (fun _ t2 => wpAny (model X.prog X.w) X.A (setFlight e none) (fun _ t3 =>
    wpAny (model X.prog X.w) X.A (handleBy e X.env [.ExceptHandler (some (.Name x np)) (some n) [.Assign [.Name y py] (.Name n pn2) pos2] pos']) (SP X pins D) X.xe t3) X.xe t2) X.xe t) (fun u s' xx => ?_) PassesOwn.looking).run [] s σ H D (I.toTry _) h) (fun f s1 hsp => ?_) (fun e s1 he => he)
  · obtain ⟨a, B, sI, pins', σ', H', cls, d, rfl, J', nb, up, sky, na, os, ag, b, hb1, hyes, hno⟩ := xx
    have J : Inv X pins σ' H' sI := J'.ofTry ok
    have sk2 : Sky B (X.env :: X.outer) a (Zc cls d) X.env.locals s'.heap := by rw [← hs]; exact sky
    show wpAny (model X.prog X.w) X.A (noteFrame (.ref a) X.env) _ _ _
    refine Sky.land Zc.steady frm hf sk2 fun h3 fl3 up3 => ?_
    have J3 : Inv X pins σ' H' { s' with heap := h3 } := J.landed nb fl3.1 (up.trans up3) os ag
    obtain ⟨oe3, vs3, he3, hz3, hd3⟩ := fl3.there
    have noFr : a ∉ frs (X.env :: X.outer) := fun hm => by
      obtain ⟨_, o', e', hnf⟩ := fl3.2.2.1.mem hm
      rw [he3] at e'
      cases e'
      exact hnf _ hd3
    have nL : a ≠ X.env.locals := fun z => noFr (List.mem_filterMap.mpr ⟨X.env, List.mem_cons_self, by rw [hf, z]⟩)
    have nF : a ∉ X.fs := fun hm => by
      obtain ⟨e, he, q⟩ := List.mem_filterMap.mp hm
      exact noFr (List.mem_filterMap.mpr ⟨e, List.mem_cons_of_mem _ he, q⟩)
    have nI : sI.heap.get? a = none := by
      cases q : sI.heap.get? a with
      | none => rfl
      | some o =>
        have z := nb a o q (by rw [hs]; exact noFr)
        rw [fl3.2.1] at z
        cases z
    have n0 : X.s_0.heap.get? a = none := by
      cases q : X.s_0.heap.get? a with
      | none => rfl
      | some o =>
        obtain ⟨o', z⟩ := J.base.there a o q (by rw [hex]; exact fun z => nomatch z)
        rw [nI] at z
        cases z
    have nP : ∀ p ∈ X.pn ++ pins, p.1 ≠ a := fun p hp z => by
      have q := (J.pin p hp).1
      rw [z, nI] at q
      cases q
    have S3 := J3.suite he3 hd3 na nL nF
    refine wpAny_handleBy_cons (codeAny_handlers_test ?_) (by intro q; cases q)
    have LT : PySem.W.Looks (model X.prog X.w) h3 (typeOf (.ref a)) cls := fun A Q E s k q => wpAny_typeOf_ref (k _ _ he3) (by rw [hz3.1]; exact q)
    have LM := PySem.W.exm_one (M := model X.prog X.w) (J3.kIn) LT hb1
    have tst : ∀ {Q : Value → Shared → Prop} {E : Value → Shared → Prop}, Q c { s' with heap := h3 } → wpAny (model X.prog X.w) (X.A.mark (some (.ref a))) (eval (.Name x np) X.env) Q E { s' with heap := h3 } := fun {Q E} q => by
      obtain ⟨hg, hdbg, hm | ⟨hm, hv, hnn⟩⟩ := hc
      · exact ld_glob (X := X.suite a ((a, oe3) :: (X.pn ++ pins))) S3 hg hm q hdbg
      · exact ld_blt (X := X.suite a ((a, oe3) :: (X.pn ++ pins))) S3 hg hm hv q hnn hdbg
    refine tst (LM.here ?_)
    cases b with
    | true =>
      obtain ⟨C, dd, ec, ed, hy⟩ := hyes rfl
      refine codeAny_handlers_suite_as ?_
      refine HandSPX.lands_againZ fl3 fun h4 fl4 up4 => ?_
      have J4 : Inv X pins σ' H' { s' with heap := h4 } := J.landed nb fl4.1 ((up.trans up3).trans up4) os ag
      obtain ⟨oe4, vs4, he4, hz4, hd4⟩ := fl4.there
      have S4 := J4.suite he4 hd4 na nL nF
      refine store_ok (X := X.suite a ((a, oe4) :: (X.pn ++ pins))) (v := .ref a) S4 hN hi lcn rfl (fun s5 S5 => ?_) (.inr hln)
      have asg : PSs (X.suite a ((a, oe4) :: (X.pn ++ pins))) [.Assign [.Name y py] (.Name n pn2) pos2] _ := pss_one (ps_set (X := X.suite a ((a, oe4) :: (X.pn ++ pins))) (i := j) hN hj hly (pe_var (X := X.suite a ((a, oe4) :: (X.pn ++ pins))) (i := i) hi (.inl hsn) hdn hcn) rfl hfy)
      have hi2 : (σ'.set i (some (V.ref a)))[i]? = some (some (V.ref a)) := List.getElem?_set_self (by rw [J.len]; exact (List.getElem?_eq_some_iff.mp hi).1)
      refine wpAny_mono (asg.run [] s5 _ H' { nx := fun σ6 H6 => σ6 = (σ'.set i (some (V.ref a))).set j (some (V.ref a)) ∧ H6 = H', rt := fun _ _ => False, bk := fun _ _ => False, ct := fun _ _ => False } S5 ⟨.ref a, hi2, rfl, rfl⟩) (fun f s6 hsp => ?_) (fun _ _ z => False.elim z)
      cases f with
      | next =>
        obtain ⟨σ6, H6, S6, e6, e7⟩ := hsp
        subst e6
        subst e7
        have J6 : Inv X ((a, oe4) :: pins) ((σ'.set i (some (V.ref a))).set j (some (V.ref a))) H6 s6 := ⟨ok, S6.os, S6.bare, S6.base, S6.loc, S6.cell, S6.free, S6.freeC, fun p hp => S6.pin p (by
            rw [List.append_nil]
            rcases List.mem_append.mp hp with z | z
            · exact List.mem_cons_of_mem _ (List.mem_append_left _ z)
            · rcases List.mem_cons.mp z with z | z
              · rw [z]; exact List.mem_cons_self
              · exact List.mem_cons_of_mem _ (List.mem_append_right _ z)), S6.hok, S6.len⟩
        refine gone_ok J6 hN hi hln fun s7 J7 => ?_
        have J8 : Inv X pins (((σ'.set i (some (V.ref a))).set j (some (V.ref a))).set i none) H6 s7 := ⟨ok, J7.os, J7.bare, J7.base, J7.loc, J7.cell, J7.free, J7.freeC, fun p hp => J7.pin p (by
            rcases List.mem_append.mp hp with z | z
            · exact List.mem_append_left _ z
            · exact List.mem_append_right _ (List.mem_cons_of_mem _ z)), J7.hok, J7.len⟩
        have a7 := (J7.pin (a, oe4) (List.mem_append_right _ List.mem_cons_self)).1
        have z7 : Zc (.ref C) (some dd) oe4 := by rw [← ec, ← ed]; exact hz4
        exact ⟨_, _, Inv.adopt J8 a7 z7 hd4 na n0 nL nP, hy a na⟩
      | brk =>
        obtain ⟨_, _, _, z⟩ := hsp
        exact z.elim
      | cont =>
        obtain ⟨_, _, _, z⟩ := hsp
        exact z.elim
      | ret u =>
        obtain ⟨_, _, _, _, _, z⟩ := hsp
        exact z.elim
    | false =>
      show wpAny _ X.A (handleBy (.ref a) X.env []) _ _ _
      refine wpAny_handleBy_nil ?_
      obtain ⟨k1, k2, k3, oe, vs, T, oT, ts', he, hz, hd, h1, hr⟩ := id fl3
      unfold PySem.passOn
      refine wpAny_bind (wpAny_field he hd h1 ?_)
      rw [if_neg (show ¬ ((Value.ref T == Value.none) = true) from by simp)]
      have fin : wpAny (model X.prog X.w) X.A (setFlight (.ref a) X.env.frame) (fun _ t4 => wpAny (model X.prog X.w) X.A (throw (.ref a) : Sem Flow) (SP X pins D) X.xe t4) X.xe { s' with heap := h3 } := by
        rw [hf]
        refine HandSPX.setFlight_upZ fl3 fun h4 hh4 up4 => wpAny_throw (tk _ _ ?_)
        exact ⟨a, B, sI, pins, σ', H', cls, d, rfl, J, nb, (up.trans up3).trans up4, .inr (.inr (by rw [hs]; exact hh4)), na, os, ag, hno rfl⟩
      first
        | exact wpAny_bind (wpAny_pure (wpAny_bind fin))
        | exact wpAny_bind fin
  · cases f with
    | next =>
      obtain ⟨σ', H', J', q⟩ := hsp
      exact wpAny_execs_nil ⟨σ', H', J'.ofTry ok, q⟩
    | brk =>
      obtain ⟨σ', H', J', q⟩ := hsp
      exact ⟨σ', H', J'.ofTry ok, q⟩
    | cont =>
      obtain ⟨σ', H', J', q⟩ := hsp
      exact ⟨σ', H', J'.ofTry ok, q⟩
    | ret u =>
      obtain ⟨v, σ', H', J', r, q⟩ := hsp
      exact ⟨v, σ', H', J'.ofTry ok, r, q⟩
end
end Pi

end
section
set_option linter.all false
set_option maxRecDepth 100000
set_option maxHeartbeats 4000000
/-! PiW: what a part of the heap says, the whole says. -/
namespace Pi
open PySem PySem.Spec PyProof.Rows L2
/-- K' is a part of K -/
def FLe (K' K : PySem.W.Frag) : Prop := ∀ a o, K'.lookup a = some o → K.lookup a = some o
section
variable {K' K : PySem.W.Frag} (L : FLe K' K)
include L
theorem nsIn_le {ns : Addr} {n : Str} {r : Option Value} (e : PySem.W.nsIn K' ns n = some r) : PySem.W.nsIn K ns n = some r := by
  unfold PySem.W.nsIn at e ⊢
  split at e
  · rename_i ho
    rw [L _ _ ho]
    exact e
  · cases e
theorem clsIn_le {C : Addr} {cd : ClassData} (e : PySem.W.clsIn K' C = some cd) : PySem.W.clsIn K C = some cd := by
  unfold PySem.W.clsIn at e ⊢
  split at e
  · rename_i ho
    rw [L _ _ ho]
    exact e
  · cases e
theorem ownIn_le {c : Value} {n : Str} {r : Option Value} (e : PySem.W.ownIn K' n c = some r) : PySem.W.ownIn K n c = some r := by
  cases c with
  | ref a =>
    simp only [PySem.W.ownIn] at e ⊢
    split at e
    · rename_i ho
      rw [L _ _ ho]
      exact nsIn_le L e
    · cases e
  | _ => exact e
theorem alongIn_le {n : Str} {r : Option Value} : ∀ {l : List Value}, PySem.W.alongIn K' n l = some r → PySem.W.alongIn K n l = some r
  | [], e => e
  | c :: l, e => by
    unfold PySem.W.alongIn at e ⊢
    split at e
    · rename_i ho
      rw [ownIn_le L ho]
      exact e
    · rename_i ho
      rw [ownIn_le L ho]
      exact alongIn_le e
    · cases e
theorem findIn_le {t : Value} {n : Str} {r : Option Value} (e : PySem.W.findIn K' t n = some r) : PySem.W.findIn K t n = some r := by
  cases t with
  | ref a =>
    simp only [PySem.W.findIn] at e ⊢
    split at e
    · rename_i ho
      rw [L _ _ ho]
      exact alongIn_le L e
    · cases e
  | _ => exact e
theorem typeIn_le {v t : Value} (e : PySem.W.typeIn K' v = some t) : PySem.W.typeIn K v = some t := by
  cases v with
  | ref a =>
    simp only [PySem.W.typeIn] at e ⊢
    obtain ⟨o, ho, rfl⟩ := Option.map_eq_some_iff.mp e
    rw [L _ _ ho]
    rfl
  | _ => exact e
theorem specialIn_le {v : Value} {n : Str} {r : Option Value} (e : PySem.W.specialIn K' v n = some r) : PySem.W.specialIn K v n = some r := by
  unfold PySem.W.specialIn at e ⊢
  obtain ⟨t, a, b⟩ := Option.bind_eq_some_iff.mp e
  rw [typeIn_le L a]
  exact findIn_le L b
theorem takesIn_le {v : Value} {r : Bool} (e : PySem.W.takesIn K' v = some r) : PySem.W.takesIn K v = some r := by
  unfold PySem.W.takesIn at e ⊢
  split at e
  · rename_i ho
    rw [specialIn_le L ho]
    exact e
  · rename_i ho
    rw [specialIn_le L ho]
    obtain ⟨t, a, b⟩ := Option.map_eq_some_iff.mp e
    show Option.map _ (PySem.W.specialIn K v "__delete__") = _
    rw [specialIn_le L a, ← b]
    rfl
  · cases e
theorem mroIn_le {C : Addr} {b : Value} {r : Bool} (e : PySem.W.mroIn K' C b = some r) : PySem.W.mroIn K C b = some r := by
  unfold PySem.W.mroIn at e ⊢
  obtain ⟨t, a, b⟩ := Option.bind_eq_some_iff.mp e
  rw [clsIn_le L a]
  exact b
theorem subIn_le {t b : Value} {r : Bool} (e : PySem.W.subIn K' t b = some r) : PySem.W.subIn K t b = some r := by
  cases t with
  | ref C => exact mroIn_le L e
  | _ => exact e
theorem hasDictIn_le {C : Addr} (e : PySem.W.hasDictIn K' C = true) : PySem.W.hasDictIn K C = true := by
  unfold PySem.W.hasDictIn at e ⊢
  cases q : PySem.W.clsIn K' C with
  | none =>
    rw [q] at e
    cases e
  | some cd =>
    rw [q] at e
    rw [clsIn_le L q]
    exact e
theorem keepIn_le {f : Value} (e : PySem.W.keepIn K' f = true) : PySem.W.keepIn K f = true := by
  unfold PySem.W.keepIn at e ⊢
  split at e
  · split at e
    · rename_i ho
      rw [L _ _ ho]
    · rename_i ho
      rw [L _ _ ho]
      exact beq_iff_eq.mpr (specialIn_le L (beq_iff_eq.mp e))
    · cases e
  · cases e
theorem XCls.le {C fI : Addr} {f : Str} {B initId : String} (T : XCls K' C fI f B initId) (vv : PySem.W.findCls K (.type B) (.type "type") "__init__" = some (.val (.builtin initId))) : XCls K C fI f B initId := by
  obtain ⟨⟨nB, newId, iN, bn, bm, nm, q, N, bs, sn, sub, ab, col, dd, k0, k1, k2, k3, k5, X, ho⟩, a1, a2, a3, a4, a5, a6, a7, a8, a9, b1, b2, b3, b4, b5, b6⟩ := T
  exact ⟨⟨nB, newId, iN, bn, bm, nm, q, N, bs, sn, sub, ab, col, dd, k0, k1, k2, k3, k5, X, L _ _ ho⟩, vv, findIn_le L a2, findIn_le L a3, findIn_le L a4, findIn_le L a5, subIn_le L a6, typeIn_le L a7, keepIn_le L a8, hasDictIn_le L a9, findIn_le L b1, findIn_le L b2, typeIn_le L b3, specialIn_le L b4, takesIn_le L b5, mroIn_le L b6⟩
end
/-- the places as, read in K -/
theorem frK_le {K : PySem.W.Frag} {as : List Addr} : FLe (He.frG (fun a => K.lookup a) as) K := fun _ _ e => He.frG_at as e
end Pi

end
section
set_option linter.all false
set_option maxRecDepth 100000
/-! PiT: exceptions, calls by names: the judgements. -/
namespace Pi
open PySem PySem.Spec PyProof.Rows L2
/-! ### raw rules -/
section
variable {X : Cx} {e : Expr} {te : TE} {n : Str} {pos : Pos}
/-- e.f of a kept exception -/
def tXf' (K : PySem.W.Frag) (n : Str) (te : TE) : TE := fun σ H Q => te σ H fun x H1 => ∃ (a C fI d : Addr) (B initId : String) (y : V), x = .ref a ∧ H1 a = some (exb a C d) ∧ H1 d = some (.xd [(n, y)]) ∧ XCls K C fI n B initId ∧ Q y H1
theorem pe_xfk (he : PE X e te) (hb : attributeBase e n X.env (eval e X.env) = eval e X.env) : PE X (.Attribute e n pos) (tXf' X.K n te) := by
  refine ⟨fun pins s σ H Q I h => ?_⟩
  refine attr_of hb (thn (he.run pins s σ H _ I h) fun u s1 hh => ?_)
  obtain ⟨x, H1, I1, rx, a, C, fI, d, B, initId, y, ex, ea, ed, T, q⟩ := hh
  subst ex
  obtain rfl : u = Value.ref a := rx
  obtain ⟨oe, vs, ha, hz, hd⟩ := exb_at I1.hok ea
  have hx : ObjOk X.prog X.w H1 s1.heap d (.xd [(n, y)]) := I1.hok d _ ed
  obtain ⟨mA, hns, hr⟩ := hx
  obtain ⟨od, ho, hl⟩ := lookIn_ns hns
  obtain ⟨u, hu, ru⟩ := RelO.some_of (v := y) (o := mA n) (by have z := hr n; rw [show ([(n, y)] : List (Str × V)).lookup n = some y by simp [List.lookup]] at z; exact z)
  have J : PySem.W.InstAt s1.heap a oe C (some od) := ⟨ha, hz.1, by unfold PySem.W.notCls; rw [hd] <;> rfl, by rw [hz.2]; exact ho⟩
  exact HandSPX.exc_get I1.kIn J T.ga T.gg T.exC (PySem.W.findObj_own T.hd T.noF rfl (by rw [hl, hu])) (handed_of ru) ⟨y, H1, I1.tok _, ru, q⟩
end
/-- isinstance(e, c), e a kept exception -/
def rIsX (K : PySem.W.Frag) : List V → Hp → VK → Prop := fun xs H Q => ∃ (a C fI d : Addr) (f : Str) (B initId : String) (fs : List (Str × V)) (c : V) (cv : Value) (b : Bool), xs = [.ref a, c] ∧ H a = some (exb a C d) ∧ H d = some (.xd fs) ∧ XCls K C fI f B initId ∧ (∀ u, RelV c u → u = cv) ∧ PySem.W.kitOne K (.ref C) cv = some b ∧ Q (.bl b) H
theorem call_isX {X : Cx} : CallR X (.builtin "isinstance") (rIsX X.K) := by
  intro pins s σ H xs us Q I r h
  obtain ⟨a, C, fI, d, f, B, initId, fs, c, cv, b, rfl, ea, ed, T, hcv, e, q⟩ := h
  cases r with
  | cons rx rr =>
    cases rr with
    | cons rt rr =>
      cases rr
      cases rx
      have ec := hcv _ rt
      subst ec
      obtain ⟨oe, vs, ha, hz, hd⟩ := exb_at I.hok ea
      have hx : ObjOk X.prog X.w H s.heap d (.xd fs) := I.hok d _ ed
      obtain ⟨mA, hns, hr⟩ := hx
      obtain ⟨od, ho, hl⟩ := lookIn_ns hns
      have J : PySem.W.InstAt s.heap a oe C (some od) := ⟨ha, hz.1, by unfold PySem.W.notCls; rw [hd] <;> rfl, by rw [hz.2]; exact ho⟩
      have hcl : (PySem.W.clsIn X.K C).isSome = true := by
        obtain ⟨cd, hc, _⟩ := PySem.W.any_some T.hd
        rw [hc]
        rfl
      exact PySem.W.kia_one (PySem.W.kitx_exc hcl T.ga T.gg T.exC T.cl T.gs T.tk T.mo) I.kIn J e (fun z => nomatch z) fun tk => ⟨.bl b, H, I.kept (t' := tk) fun _ _ z => z, rfl, q⟩

/-! ### worlds -/
section
variable {I : XI} {K : PySem.W.Frag} {W W0 : Wd} {H H0 : Hp} {S : Store} {O : List Nat} {ρ : Env} {σ : L2.St} {p : Addr} {o : HO}
theorem wok_addS (hp : H p = none) (w : WOk W H) : WOk ((W.add p).shr p) (upd H p o) := by
  have z := wok_add (o := o) hp w
  refine ⟨fun a h => ?_, z.d, z.nd, z.mp⟩
  rcases h with h | h
  · exact .inl h
  · exact z.rp a h
theorem not_P (hp : H p = none) (w : WOk W H) : ¬ W.P p := fun z => by
  obtain ⟨u, e⟩ := w.d p z
  rw [hp] at e
  cases e
theorem le_addS (hp : H p = none) (w : WOk W H) : W.le ((W.add p).shr p) := ⟨fun _ h => .inr h, fun _ h => .inr h, fun a h q => by
  rcases h with h | h
  · subst h
    exact absurd q (not_P hp w)
  · exact h, fun _ _ h => h⟩
theorem st_addS (hp : H p = none) (w : WOk W H) (h : StRep I K W H S) : StRep I K ((W.add p).shr p) (upd H p o) S :=
  h.up (le_addS hp w) (Kp.new hp) w rfl fun a ha => by
    obtain ⟨_, u, e⟩ := w.mp a ha
    exact upd_ne (ne_of_none e hp)
theorem nxt_addS (hp : H p = none) (w : WOk W H) (h : StRep I K W H S) : Nxt I K W H ((W.add p).shr p) (upd H p o) S := ⟨le_addS hp w, Kp.new hp, wok_addS hp w, st_addS hp w h⟩
theorem Sr0.clr (h : Sr0 I K W0 H0 W H O ρ σ S) (i : Nat) : Sr0 I K W0 H0 W H (less O [i]) (ρ.set i none) (σ.set i none) S := by
  have g1 : ∀ {j : Nat} {q : Val}, (ρ.set i none)[j]? = some (some q) → j ≠ i ∧ ρ[j]? = some (some q) := fun {j q} e => by
    by_cases hj : i = j
    · subst hj
      by_cases hl : i < ρ.length
      · rw [List.getElem?_set_self hl] at e; cases e
      · rw [List.getElem?_eq_none (by simpa using hl)] at e; cases e
    · rw [List.getElem?_set_ne hj] at e
      exact ⟨fun z => hj z.symm, e⟩
  have g2 : ∀ {j : Nat}, j ≠ i → (σ.set i none)[j]? = σ[j]? := fun {j} hj => List.getElem?_set_ne (Ne.symm hj)
  refine ⟨h.le, h.kp, h.sr.of ⟨by rw [List.length_set, List.length_set]; exact h.sr.e.len, fun j q e n => ?_, fun j q e n => ?_, fun j k a hj hk e1 e2 e3 e4 => ?_⟩, fun j a hj e1 e2 => ?_⟩
  · obtain ⟨hj, e'⟩ := g1 e
    rw [g2 hj]
    exact h.sr.e.sh j q e' fun z => n (mem_less.mpr ⟨z, by simpa using hj⟩)
  · obtain ⟨hj, e'⟩ := g1 e
    rw [g2 hj]
    exact h.sr.e.ow j q e' (mem_less.mp n).1
  · obtain ⟨q3, e3⟩ := e3
    obtain ⟨q4, e4⟩ := e4
    obtain ⟨hj1, e3⟩ := g1 e3
    obtain ⟨hk1, e4⟩ := g1 e4
    rw [g2 hj1] at e1
    rw [g2 hk1] at e2
    exact h.sr.e.ap j k a (mem_less.mp hj).1 (mem_less.mp hk).1 e1 e2 ⟨_, e3⟩ ⟨_, e4⟩
  · obtain ⟨q2, e2⟩ := e2
    obtain ⟨hj1, e2⟩ := g1 e2
    rw [g2 hj1] at e1
    exact h.ow j a (mem_less.mp hj).1 e1 ⟨_, e2⟩
end
/-! ### the judgements -/
/-- the class c stands there -/
structure XAt (X : Cx) (I : XI) (sg : Sig) (c : String) : Prop where
  ex : ∃ (C fI : Addr) (f B initId : String) (fd : FuncData) (k : Nat), XCls X.K C fI (f : Str) B initId ∧ I.ce c = some C ∧ I.xf c = some f ∧ sg.eb c = some B ∧ sg.xf c = some f ∧ X.mg (c : Str) = some (.ref C) ∧
    FnOk X.prog X.w X.K X.mg X.base (L2.CX X.prog X.w) k fI fd ["self", (f : Str)] (spI C (f : Str)) ∧ Binds X.K fd ["self", (f : Str)] [] ∧ Room (k + 1) X.A ∧ ∀ (s : Shared) (self u : Value), BindsTo s fd ⟨[self], [((f : Str), u)]⟩ [("self", self), ((f : Str), u)]
/-- whatever exception is held -/
def XHeld (K : PySem.W.Frag) (I : XI) (sg : Sig) : Prop := ∀ c C, I.ce c = some C → ∃ (fI : Addr) (f B initId : String), XCls K C fI (f : Str) B initId ∧ I.xf c = some f ∧ sg.eb c = some B ∧ sg.xf c = some f
/-- a class that may be asked for -/
structure NAt (K : PySem.W.Frag) (mg : Str → Option Value) (I : XI) (sg : Sig) (n : String) : Prop where
  ex : ∃ (cv : Value) (vv : V), RelV vv cv ∧ (∀ u, RelV vv u → u = cv) ∧ (mg (n : Str) = some cv ∨ (mg (n : Str) = none ∧ bootBuiltins (n : Str) = some cv ∧ (n : Str) ≠ "__name__")) ∧
    ∀ c C, I.ce c = some C → ∃ b, undX sg.eb c n = some b ∧ PySem.W.kitOne K (.ref C) cv = some b ∧ PySem.W.exmOne K (.ref C) cv = some b
section
variable {X : Cx} {I : XI} {W0 : Wd} {H0 : Hp} {fr : Bool} {OL : List Nat} {O : List Nat} {O' : Option (List Nat)} {sg : Sig} {cf : String → List Val → Store → Res Val}
theorem pe_nm {n : Str} {cv : Value} {vv : V} {p : Pos} (r : RelV vv cv) (hg : Gl X n) (hd : (n == ("__debug__" : Str)) = false) (h : X.mg n = some cv ∨ (X.mg n = none ∧ bootBuiltins n = some cv ∧ n ≠ "__name__")) : PE X (.Name n p) (fun σ H Q => Q vv H) := by
  refine ⟨fun pins s σ H Q J q => ?_⟩
  rcases h with h | ⟨h1, h2, h3⟩
  · exact ld_glob J hg h ⟨vv, H, J, r, q⟩ hd
  · exact ld_blt J hg h1 h2 ⟨vv, H, J, r, q⟩ h3 hd
theorem j_isx {E : L2.St → XK} {e : IE} {n : String} {ee : Expr} {p p2 pos : Pos} (xh : XHeld X.K I sg) (nm : NAt X.K X.mg I sg n) (hg : Gl X "isinstance") (hm : X.mg "isinstance" = none) (hgn : Gl X (n : Str)) (hdn : ((n : Str) == ("__debug__" : Str)) = false)
    (h : JE X I E O (kB I X.K) (fun ρ S => evE sg cf ρ e S) ee) (hs : starEach [ee, .Name (n : Str) p2] X.env = (false, eval ee X.env) :: starEach [.Name (n : Str) p2] X.env) :
    JE X I E O (kF I X.K) (fun ρ S => evE sg cf ρ (.isx e n) S) (.Call (.Name "isinstance" p) [ee, .Name (n : Str) p2] [] pos) := by
  obtain ⟨cv, vv, r, hr, hn, hc⟩ := nm.ex
  refine PE.imp (pe_callB call_isX hg hm (by rfl) (pa_cons h (pa_cons (pe_nm r hgn hdn hn) pa_nil rfl) hs) (by decide) (by decide) hs rfl) fun σ H Q ⟨W, ρ, S, sr, q⟩ => ⟨W, ρ, S, sr, ?_⟩
  simp only [evE] at q
  refine q.seq (kF_anti _ _) fun v S1 W1 H1 x e1 n1 k1 q1 => ?_
  cases v <;> try (exact q1.elim)
  rename_i c y
  obtain ⟨a, C, d, f, yv, rfl, h1, h2, h3, h4, h5, h6, h7⟩ := k1
  obtain ⟨fI, f2, B, initId, T, z1, z2, z3⟩ := xh c C h1
  obtain ⟨b, u1, u2, u3⟩ := hc c C h1
  simp only [u1, Option.map_some, Res.of_some] at q1
  exact ⟨a, C, fI, d, _, B, initId, _, vv, cv, b, rfl, h5, h6, T, hr, u2, q1.here n1.w n1.s (show Rp I X.K W1 H1 (.bl b) (.bl b) from rfl)⟩
theorem j_fldx {E : L2.St → XK} {e : IE} {n : String} {ee : Expr} {pos : Pos} (xh : XHeld X.K I sg) (h : JE X I E O (kB I X.K) (fun ρ S => evE sg cf ρ e S) ee) (hb : attributeBase ee (n : Str) X.env (eval ee X.env) = eval ee X.env) :
    JE X I E O (kS I X.K) (fun ρ S => evE sg cf ρ (.fldx e n) S) (.Attribute ee (n : Str) pos) := by
  refine PE.imp (pe_xfk h hb) fun σ H Q ⟨W, ρ, S, sr, q⟩ => ⟨W, ρ, S, sr, ?_⟩
  simp only [evE] at q
  refine q.seq (kS_anti _ _) fun v S1 W1 H1 x e1 n1 k1 q1 => ?_
  cases v <;> try (exact q1.elim)
  rename_i c y
  obtain ⟨a, C, d, f, yv, rfl, h1, h2, h3, h4, h5, h6, h7⟩ := k1
  obtain ⟨fI, f2, B, initId, T, z1, z2, z3⟩ := xh c C h1
  rw [h2] at z1
  cases z1
  by_cases hx : sg.xf c = some n
  · simp only [if_pos hx] at q1
    rw [z3] at hx
    cases hx
    exact ⟨a, C, fI, d, B, initId, yv, rfl, h5, h6, T, q1.here n1.w n1.s h7⟩
  · simp only [if_neg hx] at q1
    exact q1.elim
theorem js_raise {E : XK} {c : String} {e : IE} {ee : Expr} {p pos pos2 : Pos} (hcm : X.calm = true) (tk : Takes X fun cls d _ H => E cls d H) (xa : XAt X I sg c) (hg : Gl X (c : Str)) (hd : ((c : Str) == ("__debug__" : Str)) = false)
    (hx : Passes (L2.CX X.prog X.w) X (fun _ _ _ => False)) (h : JE X I (fun _ => E) O (kS I X.K) (fun ρ S => evE sg cf ρ e S) ee) (hst : starEach [ee] X.env = [(false, eval ee X.env)]) :
    JS X I E W0 H0 fr OL O none (fun ρ S => evS sg cf (.raise (.mkx c e)) ρ S) (.Raise (some (.Call (.Name (c : Str) p) [ee] [] pos)) none pos2) := by
  obtain ⟨C, fI, f, B, initId, fd, k, T, z1, z2, z3, z4, hm, F, hb, hr, _⟩ := xa.ex
  refine PS.imp (ps_raise hcm tk (pmk_x T F hr hb hx hg hm (ja_consS h ja_nilS hst) hd hst)) fun D σ H ⟨W, ρ, S, sr, q⟩ => ⟨W, ρ, S, sr.sr, ?_⟩
  simp only [evS, evE] at q
  have e1 : evEs sg cf ρ [e] S = (evE sg cf ρ e S).bind fun v S1 => .ok [v] S1 := evEs_one
  show At I X.K E (kSs I X.K) W H (evEs sg cf ρ [e] S) _
  rw [e1]
  cases e2 : evE sg cf ρ e S with
  | bad => rw [e2] at q; exact q.elim
  | exc y S1 =>
    rw [e2] at q
    exact fun W' H' cls d n x => q W' H' cls d (sr.n0 n) x
  | ok v S1 =>
    rw [e2] at q
    intro W1 H1 xs n1 k1
    obtain ⟨y, ys, rfl, k2, k3⟩ := k1
    cases k3
    refine ⟨y, rfl, fun d hd => ?_⟩
    have na := nxt_addS (I := I) (K := X.K) (S := S1) (o := .xd [((f : Str), y)]) hd n1.w n1.s
    exact q _ _ (.ref C) (some d) (sr.n0 (n1.trans na)) ⟨c, v, C, d, f, y, rfl, z1, z2, rfl, rfl, .inl rfl, upd_same, RepV.mono ((Kp.new hd).mono (fun _ z => z)) na.le.r na.le.m _ _ k2⟩
theorem js_tryx {E : XK} {i n j : Nat} {xi nn y : Str} {c : String} {e : IE} {ee : Expr} {px ap np py pn2 pos pos' pos2 : Pos} (hs : X.stack = X.env :: X.outer) (hf : X.env.frame = some X.env.locals) (hex : X.ex = []) (hN : X.N.Nodup)
    (hi : X.N[i]? = some xi) (hxi : L2.Loc X.env.scope xi) (hfi : X.fn xi = true ∨ X.env.scope.names.lookup xi = some .local) (hsw : swapsWith ee (some (.Name xi px)) ap.line X.env = pure false)
    (hn : X.N[n]? = some nn) (hln : X.env.kindOf nn = some .local) (hsn : X.env.scope.names.lookup nn = some .local) (hdn : (nn == ("__debug__" : Str)) = false) (hcn : (nn == ("__classdict__" : Str)) = false)
    (hj : X.N[j]? = some y) (hly : L2.Loc X.env.scope y) (hfy : X.fn y = true ∨ X.env.scope.names.lookup y = some .local) (nm : NAt X.K X.mg I sg c) (hgc : Gl X (c : Str)) (hdc : ((c : Str) == ("__debug__" : Str)) = false) (tk : Takes X fun cls d _ H => E cls d H)
    (h : ∀ (W : WX) (pn : List (Addr × Obj)) (xe : Value → Shared → Prop), Takes (X.tr pn xe) W → PassesOwn (model X.prog X.w) X.A X.env xe → JE (X.tr pn xe) I (fun σ cls d H => W cls d σ H) O (kS I X.K) (fun ρ S => evE sg cf ρ e S) ee) :
    JS X I E W0 H0 fr OL O (some (less O [i, n, j])) (fun ρ S => evS sg cf (.tryx i e c n j) ρ S)
      (.Try [.Assign [.Name xi px] ee ap] [.ExceptHandler (some (.Name (c : Str) np)) (some nn) [.Assign [.Name y py] (.Name nn pn2) pos2] pos'] [] [] pos) := by
  obtain ⟨cv, vv, r, hr, hnm, hc⟩ := nm.ex
  refine PS.imp (ps_try_keep hs hf hex hN hn hln hsn hdn hcn hj hly hfy ⟨hgc, hdc, hnm⟩ tk (tb := fun W => tAsg (rd I X.K (fun σ cls d H => W cls d σ H) O (kS I X.K) (fun ρ S => evE sg cf ρ e S)) (gName i)) fun W pn xe t po => pss_one (ps_set (X := X.tr pn xe) hN hi hxi (h W pn xe t po) hsw hfi)) fun D σ H ⟨W, ρ, S, sr, q⟩ => ⟨W, ρ, S, sr.sr, ?_⟩
  simp only [evS] at q
  cases e1 : evE sg cf ρ e S with
  | bad => rw [e1] at q; exact q.elim
  | ok v S1 =>
    rw [e1] at q
    show At I X.K _ (kS I X.K) W H (evE sg cf ρ e S) _
    rw [e1]
    intro W1 H1 x n1 k1
    obtain ⟨W2, sr2, n2⟩ := ((sr.nxt n1).set (i := i) k1).weak (O1 := less O [i, n, j]) fun m hm => by
      obtain ⟨h1, h2⟩ := mem_less.mp hm
      exact mem_less.mpr ⟨h1, fun z => h2 (by simp at z; simp [z])⟩
    exact q _ rfl W2 H1 _ sr2 ((n1.nr sr.sr.w).trans n2)
  | exc z S1 =>
    rw [e1] at q
    show At I X.K _ (kS I X.K) W H (evE sg cf ρ e S) _
    rw [e1]
    intro W1 H1 cls dd n1 ex
    obtain ⟨d, x, C, d2, f, xv, rfl, z1, z2, rfl, rfl, z3, z4, z5⟩ := ex
    obtain ⟨b, u1, u2, u3⟩ := hc d C z1
    simp only [u1] at q
    refine ⟨b, u3, fun hb => ⟨C, d2, rfl, rfl, fun a ha => ?_⟩, fun hb => ?_⟩
    · subst hb
      have na := nxt_addS (I := I) (K := X.K) (S := S1) (o := exb a C d2) ha n1.w n1.s
      have n3 := n1.trans na
      have rx : Rp I X.K ((W1.add a).shr a) (upd H1 a (exb a C d2)) (.exn d x) (.ref a) := ⟨a, C, d2, f, xv, rfl, z1, z2, .inl rfl, .inr z3, upd_same, by rw [upd_ne (ne_of_none z4 ha)]; exact z4, RepV.mono ((Kp.new ha).mono (fun _ z => z)) na.le.r na.le.m _ _ z5⟩
      have s1 := (((sr.nxt n3).set (i := n) rx).set (i := j) rx).clr n
      obtain ⟨W2, sr2, n2⟩ := s1.weak (O1 := less O [i, n, j]) fun m hm => by
        obtain ⟨h1, h2⟩ := mem_less.mp hm
        simp at h2
        exact mem_less.mpr ⟨mem_less.mpr ⟨mem_less.mpr ⟨h1, by simp [h2]⟩, by simp [h2]⟩, by simp [h2]⟩
      exact q _ rfl W2 _ _ sr2 ((n3.nr sr.sr.w).trans n2)
    · subst hb
      exact q W1 H1 (.ref C) (some d2) (sr.n0 n1) ⟨d, x, C, d2, f, xv, rfl, z1, z2, rfl, rfl, z3, z4, z5⟩
end

/-! ### c(e) as a value -/
section
variable {X : Cx} {I : XI} {O : List Nat} {sg : Sig} {cf : String → List Val → Store → Res Val}
theorem mkx_rd {E : L2.St → XK} {c f : String} {C : Addr} {e : IE} {σ : L2.St} {H : Hp} {Q : VK} (z1 : I.ce c = some C) (z2 : I.xf c = some f) (h : rd I X.K E O (kF I X.K) (fun ρ S => evE sg cf ρ (.mkx c e) S) σ H Q) : tXv C (f : Str) (rd I X.K E O (kSs I X.K) (fun ρ S => evEs sg cf ρ [e] S)) σ H Q := by
  obtain ⟨W, ρ, S, sr, q⟩ := h
  refine ⟨W, ρ, S, sr, ?_⟩
  simp only [evE] at q
  have e1 : evEs sg cf ρ [e] S = (evE sg cf ρ e S).bind fun v S1 => .ok [v] S1 := evEs_one
  show At I X.K _ (kSs I X.K) W H (evEs sg cf ρ [e] S) _
  rw [e1]
  cases e2 : evE sg cf ρ e S with
  | bad => rw [e2] at q; exact q
  | exc y S1 => rw [e2] at q; exact q
  | ok v S1 =>
    rw [e2] at q
    intro W1 H1 xs n1 k1
    obtain ⟨y, ys, rfl, k2, k3⟩ := k1
    cases k3
    refine ⟨y, rfl, fun a d ha hd hda => ?_⟩
    have na := nxt_addS (I := I) (K := X.K) (S := S1) (o := .xd [((f : Str), y)]) hd n1.w n1.s
    have ha2 : upd H1 d (.xd [((f : Str), y)]) a = none := by rw [upd_ne (Ne.symm hda)]; exact ha
    have nb := nxt_addS (I := I) (K := X.K) (S := S1) (o := exb a C d) ha2 na.w na.s
    have nn := na.trans nb
    refine q _ _ _ (n1.trans nn) ?_
    exact ⟨a, C, d, f, y, rfl, z1, z2, .inl rfl, .inr (.inl rfl), upd_same, by rw [upd_ne hda, upd_same], RepV.mono ((nn.kp).mono n1.w.rp) nn.le.r nn.le.m _ _ k2⟩
theorem j_mkx {E : L2.St → XK} {c : String} {e : IE} {ee : Expr} {p pos : Pos} (xa : XAt X I sg c) (hg : Gl X (c : Str)) (hd : ((c : Str) == ("__debug__" : Str)) = false) (hx : Passes (L2.CX X.prog X.w) X (fun _ _ _ => False))
    (h : JE X I E O (kS I X.K) (fun ρ S => evE sg cf ρ e S) ee) (hst : starEach [ee] X.env = [(false, eval ee X.env)]) : JE X I E O (kF I X.K) (fun ρ S => evE sg cf ρ (.mkx c e) S) (.Call (.Name (c : Str) p) [ee] [] pos) := by
  obtain ⟨C, fI, f, B, initId, fd, k, T, z1, z2, z3, z4, hm, F, hb, hr, _⟩ := xa.ex
  exact PE.imp (pe_xmk T F hr hb hx hg hm (ja_consS h ja_nilS hst) hd hst) fun σ H Q q => mkx_rd z1 z2 q
/-- by its name -/
theorem j_mkxK {E : L2.St → XK} {c f : String} {e : IE} {ee : Expr} {p kp pos : Pos} (xa : XAt X I sg c) (hf : sg.xf c = some f) (hg : Gl X (c : Str)) (hd : ((c : Str) == ("__debug__" : Str)) = false) (hx : Passes (L2.CX X.prog X.w) X (fun _ _ _ => False))
    (h : PK X [⟨some (f : Str), ee, kp⟩] (rd I X.K E O (kSs I X.K) (fun ρ S => evEs sg cf ρ [e] S))) : JE X I E O (kF I X.K) (fun ρ S => evE sg cf ρ (.mkx c e) S) (.Call (.Name (c : Str) p) [] [⟨some (f : Str), ee, kp⟩] pos) := by
  obtain ⟨C, fI, f2, B, initId, fd, k, T, z1, z2, z3, z4, hm, F, hb, hr, hk⟩ := xa.ex
  rw [hf] at z4
  cases z4
  exact PE.imp (pe_xmkK T F hr hk hx hg hm h rfl rfl rfl hd) fun σ H Q q => mkx_rd z1 z2 q
end
/-! ### calls with names, defaults -/
/-- src puts what is written, and the defaults, into the parameters' places -/
def KwRep (np nk : Nat) (src : List Src) (m : Nat) (gV : List V → List V → List V) : Prop := ∀ (I : XI) (K : PySem.W.Frag) (H : Hp) (R : Addr → Prop) (μ : List Addr) (pv : List Val) (vs zs : List V), RepVs I K H R μ pv (vs ++ zs) → vs.length = np → zs.length = nk →
  ∃ qs, srcVs pv src = some qs ∧ qs.length = m ∧ RepVs I K H R μ qs (gV vs zs)
structure CanCallK (X : Cx) (I : XI) (cf : String → List Val → Store → Res Val) (f : String) (np : Nat) (ks : List Str) (src : List Src) (fr : Bool) : Prop where
  ex : ∃ (m k : Nat) (a : Addr) (fd : FuncData) (ps : List Str) (g : List Value → List Value → List Value) (gV : List V → List V → List V), FnG X.prog X.w X.K X.mg X.base (L2.CX X.prog X.w) k a fd ps (spC I X.K cf f m fr) ∧ (Quiet X.A ∧ Room k X.A) ∧ X.mg (f : Str) = some (.ref a) ∧
    PySem.W.keepIn X.K (.ref a) = true ∧ KBn X.K fd ps np ks g gV ∧ KwRep np ks.length src m gV
section
variable {X : Cx} {I : XI} {E : L2.St → XK} {O : List Nat} {sg : Sig} {cf : String → List Val → Store → Res Val}
def tCallNS (n m : Nat) (sp : Sp) (gV : List V → List V → List V) (E : L2.St → XK) (t tk : TA) : TE := fun σ H Q => t σ H fun vs H1 => tk σ H1 fun zs H2 => vs.length = n ∧ zs.length = m ∧ sp (gV vs zs) H2 Q (E σ)
theorem run_kw {CX : CXT} {k n : Nat} {f : Addr} {fd : FuncData} {ps ks : List Str} {sp : Sp} {g : List Value → List Value → List Value} {gV : List V → List V → List V} {pins : List (Addr × Obj)} {σ : L2.St} {H : Hp} {s : Shared} {Q : VK} {us ws : List Value} {vs zs : List V}
    (F : FnG X.prog X.w X.K X.mg X.base CX k f fd ps sp) (hq' : Quiet X.A) (hr : Room k X.A) (hb : KBn X.K fd ps n ks g gV) (hx : PassesAt CX X σ (E σ)) (J : Inv X pins σ H s) (r : Vals vs us) (rz : Vals zs ws) (l1 : vs.length = n) (l2 : zs.length = ks.length) (h : sp (gV vs zs) H Q (E σ)) :
    wpAny (model X.prog X.w) X.A (call (.ref f) us (ks.zip ws)) (EP X pins σ Q) X.xe s := by
  refine wpAny_call (codeAny_mono (F.run X.A X.stack s H ⟨us, ks.zip ws⟩ (g us ws) (gV vs zs) Q (E σ) hq' hr J.env0 (hb.to s us ws J.kIn (r.length.symm.trans l1) (rz.length.symm.trans l2)) (hb.rel r rz) h) fun r s' hq => ?_)
  cases r with
  | error e => exact hx pins H s e s' J hq
  | ok fl =>
    cases fl with
    | ret u => exact J.after hq
    | next => exact False.elim hq
    | brk => exact False.elim hq
    | cont => exact False.elim hq
theorem pe_kw {CX : CXT} {k n : Nat} {f : Addr} {fd : FuncData} {ps ks : List Str} {sp : Sp} {g : List Value → List Value → List Value} {gV : List V → List V → List V} {x : Str} {p pos : Pos} {e : Expr} {es : List Expr} {kws : List Keyword} {t tk : TA}
    (F : FnG X.prog X.w X.K X.mg X.base CX k f fd ps sp) (hq' : Quiet X.A) (hr : Room k X.A) (hg : Gl X x) (hm : X.mg x = some (.ref f)) (hk : PySem.W.keepIn X.K (.ref f) = true) (hb : KBn X.K fd ps n ks g gV) (hx : ∀ σ, PassesAt CX X σ (E σ))
    (ha : PA X (e :: es) t) (hkw : PK X kws tk) (hall : (backToKw pos (keywordEach kws X.env)).all (·.1.isSome) = true) (hks : (backToKw pos (keywordEach kws X.env)).filterMap (·.1) = ks) (hdb : (x == ("__debug__" : Str)) = false)
    (he : starEach (e :: es) X.env = (false, eval e X.env) :: starEach es X.env) (hpl : ((backTo pos (starEach (e :: es) X.env)).any (·.1) || (backToKw pos (keywordEach kws X.env)).any (·.1.isNone)) = false) :
    PE X (.Call (.Name x p) (e :: es) kws pos) (tCallNS n ks.length sp gV E t tk) := by
  refine ⟨fun pins s σ H Q J h => ?_⟩
  refine wpAny_Call_Name_kw (ld_glob J hg hm ?_ hdb)
  refine PySem.W.callWith_KW (h₀ := X.base) J.ok.mod.kin hk hall (thn (ha.run pos pins s σ H _ J h) fun us s1 z1 => ?_) hpl he
  obtain ⟨vs, H1, J1, r, q⟩ := z1
  refine thn (hkw.run pos pins s1 σ H1 _ J1 q) fun ws s2 z2 => ?_
  obtain ⟨zs, H2, J2, rz, l1, l2, q2⟩ := z2
  refine ⟨J2.kIn, ?_⟩
  rw [hks]
  exact run_kw F hq' hr hb (hx σ) J2 r rz l1 l2 q2
theorem pe_kw0 {CX : CXT} {k : Nat} {f : Addr} {fd : FuncData} {ps ks : List Str} {sp : Sp} {g : List Value → List Value → List Value} {gV : List V → List V → List V} {x : Str} {p pos : Pos} {kws : List Keyword} {tk : TA}
    (F : FnG X.prog X.w X.K X.mg X.base CX k f fd ps sp) (hq' : Quiet X.A) (hr : Room k X.A) (hg : Gl X x) (hm : X.mg x = some (.ref f)) (hk : PySem.W.keepIn X.K (.ref f) = true) (hb : KBn X.K fd ps 0 ks g gV) (hx : ∀ σ, PassesAt CX X σ (E σ))
    (hkw : PK X kws tk) (hall : (backToKw pos (keywordEach kws X.env)).all (·.1.isSome) = true) (hks : (backToKw pos (keywordEach kws X.env)).filterMap (·.1) = ks) (hdb : (x == ("__debug__" : Str)) = false)
    (hpl : ((backTo pos (starEach [] X.env)).any (·.1) || (backToKw pos (keywordEach kws X.env)).any (·.1.isNone)) = false) :
    PE X (.Call (.Name x p) [] kws pos) (tCallNS 0 ks.length sp gV E (fun σ H Q => Q [] H) tk) := by
  refine ⟨fun pins s σ H Q J h => ?_⟩
  refine wpAny_Call_Name_kw (ld_glob J hg hm ?_ hdb)
  refine PySem.W.callWith_KW0 (h₀ := X.base) J.ok.mod.kin hk hall (thn (hkw.run pos pins s σ H _ J h) fun ws s2 z2 => ?_) hpl
  obtain ⟨zs, H2, J2, rz, l1, l2, q2⟩ := z2
  refine ⟨J2.kIn, ?_⟩
  rw [hks]
  exact run_kw (us := []) F hq' hr hb (hx σ) J2 .nil rz l1 l2 q2
abbrev JK (X : Cx) (I : XI) (E : L2.St → XK) (O : List Nat) (m : Env → Store → Res (List Val)) (kws : List Keyword) : Prop := PK X kws (rd I X.K E O (kSs I X.K) m)
theorem PK.imp {kws : List Keyword} {t t' : TA} (h : PK X kws t) (f : ∀ σ H Q, t' σ H Q → t σ H Q) : PK X kws t' := ⟨fun pos pins s σ H Q J q => h.run pos pins s σ H Q J (f σ H Q q)⟩
theorem jk_nil : JK X I E O (fun ρ S => evEs sg cf ρ [] S) [] :=
  PK.imp pk_nil fun σ H Q ⟨W, ρ, S, sr, q⟩ => by
    simp only [evEs] at q
    exact q.here sr.w sr.s (show Rps I X.K W H [] [] from rfl)
theorem jk_cons {a : IE} {r : List IE} {ea : Expr} {nm : Option Str} {kp : Pos} {er : List Keyword} (ha : JE X I E O (kS I X.K) (fun ρ S => evE sg cf ρ a S) ea) (hr : JK X I E O (fun ρ S => evEs sg cf ρ r S) er) :
    JK X I E O (fun ρ S => evEs sg cf ρ (a :: r) S) (⟨nm, ea, kp⟩ :: er) := by
  refine PK.imp (pk_cons ha hr) fun σ H Q ⟨W, ρ, S, sr, q⟩ => ⟨W, ρ, S, sr, ?_⟩
  simp only [evEs] at q
  refine q.seq (kSs_anti _ _) fun x S1 W1 H1 xv e1 n1 k1 q1 => ⟨W1, ρ, S1, sr.nxt n1, q1.seq (kSs_anti _ _) fun ys S2 W2 H2 yv e2 n2 k2 q2 => ?_⟩
  exact q2.here n2.w n2.s (show Rps I X.K W2 H2 (x :: ys) (xv :: yv) from ⟨xv, yv, rfl, Rp.up n2.le n2.kp n1.w k1, k2⟩)
theorem evEs_app (ρ : Env) : ∀ (a b : List IE) (S : Store), evEs sg cf ρ (a ++ b) S = (evEs sg cf ρ a S).bind fun vs S1 => (evEs sg cf ρ b S1).bind fun ws S2 => .ok (vs ++ ws) S2
  | [], b, S => by
    simp only [evEs, List.nil_append, Res.bind_ok]
    cases evEs sg cf ρ b S <;> rfl
  | x :: a, b, S => by
    rw [List.cons_append]
    simp only [evEs]
    cases e1 : evE sg cf ρ x S with
    | exc y S1 => rfl
    | bad => rfl
    | ok v S1 =>
      simp only [Res.bind_ok]
      rw [evEs_app ρ a b S1]
      cases e2 : evEs sg cf ρ a S1 with
      | exc y S2 => rfl
      | bad => rfl
      | ok vs S2 =>
        simp only [Res.bind_ok]
        cases e3 : evEs sg cf ρ b S2 <;> rfl
def kwF (cf : String → List Val → Store → Res Val) (f : String) (src : List Src) (vs : List Val) (S : Store) : Res Val := match srcVs vs src with
  | some ws => cf f ws S
  | none => .bad
theorem kw_rd {f : String} {es er : List IE} {np nk m : Nat} {src : List Src} {b : Bool} {gV : List V → List V → List V} {σ : L2.St} {H : Hp} {Q : VK} (hn : es.length = np) (hk : er.length = nk) (kr : KwRep np nk src m gV)
    (h : rd I X.K E O (kFS I X.K b) (fun ρ S => evE sg cf ρ (.callB f (es ++ er) np src) S) σ H Q) :
    tCallNS np nk (spC I X.K cf f m b) gV E (rd I X.K E O (kSs I X.K) (fun ρ S => evEs sg cf ρ es S)) (rd I X.K E O (kSs I X.K) (fun ρ S => evEs sg cf ρ er S)) σ H Q := by
  obtain ⟨W, ρ, S, sr, q⟩ := h
  refine ⟨W, ρ, S, sr, ?_⟩
  simp only [evE] at q
  replace q : At I X.K (E σ) (kFS I X.K b) W H ((evEs sg cf ρ (es ++ er) S).bind (kwF cf f src)) Q := q
  rw [evEs_app] at q
  have e0 : ((evEs sg cf ρ es S).bind fun vs S1 => (evEs sg cf ρ er S1).bind fun ws S2 => Res.ok (vs ++ ws) S2).bind (kwF cf f src) = (evEs sg cf ρ es S).bind fun vs S1 => (evEs sg cf ρ er S1).bind fun ws S2 => kwF cf f src (vs ++ ws) S2 := by
    cases evEs sg cf ρ es S with
    | exc y S1 => rfl
    | bad => rfl
    | ok vs S1 =>
      simp only [Res.bind_ok]
      cases evEs sg cf ρ er S1 <;> rfl
  rw [e0] at q
  refine q.seq kFS_anti fun vs S1 W1 H1 xs e1 n1 k1 q1 => ⟨W1, ρ, S1, sr.nxt n1, q1.seq kFS_anti fun ws S2 W2 H2 ys e2 n2 k2 q2 => ?_⟩
  have k1' : Rps I X.K W2 H2 vs xs := Rps.up n2.le n2.kp n1.w k1
  have l1 : xs.length = np := by rw [← RepVs.length k1', evEs_len ρ e1]; exact hn
  have l2 : ys.length = nk := by rw [← RepVs.length k2, evEs_len ρ e2]; exact hk
  obtain ⟨qs, u1, u2, u3⟩ := kr I X.K H2 W2.R W2.μ (vs ++ ws) xs ys (RepVs.append k1' k2) l1 l2
  unfold kwF at q2
  simp only [u1] at q2
  exact ⟨l1, l2, W2, qs, S2, n2.w, n2.s, u3, u2, q2⟩
theorem j_callB {f : String} {ea : Expr} {esr : List Expr} {es er : List IE} {np : Nat} {ks : List Str} {src : List Src} {b : Bool} {kws : List Keyword} {p pos : Pos} (c : CanCallK X I cf f np ks src b) (hx : ∀ σ, PassesAt (L2.CX X.prog X.w) X σ (E σ)) (hg : Gl X (f : Str)) (hd : ((f : Str) == ("__debug__" : Str)) = false)
    (hn : es.length = np) (hnk : er.length = ks.length) (h : JA X I E O (kSs I X.K) (fun ρ S => evEs sg cf ρ es S) (ea :: esr)) (hk : JK X I E O (fun ρ S => evEs sg cf ρ er S) kws)
    (hall : (backToKw pos (keywordEach kws X.env)).all (·.1.isSome) = true) (hks : (backToKw pos (keywordEach kws X.env)).filterMap (·.1) = ks) (he : starEach (ea :: esr) X.env = (false, eval ea X.env) :: starEach esr X.env)
    (hpl : ((backTo pos (starEach (ea :: esr) X.env)).any (·.1) || (backToKw pos (keywordEach kws X.env)).any (·.1.isNone)) = false) :
    JE X I E O (kFS I X.K b) (fun ρ S => evE sg cf ρ (.callB f (es ++ er) np src) S) (.Call (.Name (f : Str) p) (ea :: esr) kws pos) := by
  obtain ⟨m, k, a, fd, ps, g, gV, F, ⟨hq', hr⟩, hm, hkp, hb, kr⟩ := c.ex
  exact PE.imp (pe_kw F hq' hr hg hm hkp hb hx h hk hall hks hd he hpl) fun σ H Q q => kw_rd hn hnk kr q
theorem j_callB0 {f : String} {er : List IE} {ks : List Str} {src : List Src} {b : Bool} {kws : List Keyword} {p pos : Pos} (c : CanCallK X I cf f 0 ks src b) (hx : ∀ σ, PassesAt (L2.CX X.prog X.w) X σ (E σ)) (hg : Gl X (f : Str)) (hd : ((f : Str) == ("__debug__" : Str)) = false)
    (hnk : er.length = ks.length) (hk : JK X I E O (fun ρ S => evEs sg cf ρ er S) kws)
    (hall : (backToKw pos (keywordEach kws X.env)).all (·.1.isSome) = true) (hks : (backToKw pos (keywordEach kws X.env)).filterMap (·.1) = ks)
    (hpl : ((backTo pos (starEach [] X.env)).any (·.1) || (backToKw pos (keywordEach kws X.env)).any (·.1.isNone)) = false) :
    JE X I E O (kFS I X.K b) (fun ρ S => evE sg cf ρ (.callB f er 0 src) S) (.Call (.Name (f : Str) p) [] kws pos) := by
  obtain ⟨m, k, a, fd, ps, g, gV, F, ⟨hq', hr⟩, hm, hkp, hb, kr⟩ := c.ex
  refine PE.imp (pe_kw0 F hq' hr hg hm hkp hb hx hk hall hks hd hpl) fun σ H Q q => ?_
  obtain ⟨W, ρ, S, sr, q⟩ := kw_rd (es := []) (er := er) rfl hnk kr q
  simp only [evEs] at q
  exact q.here sr.w sr.s (show Rps I X.K W H [] [] from rfl)
end

/-! ### a < b < c -/
section
variable {X : Cx} {I : XI} {E : L2.St → XK} {O : List Nat} {sg : Sig} {cf : String → List Val → Store → Res Val}
theorem last_no {o1 o2 : Cop} {eb ec : Expr} (h : ∀ es k p, ec ≠ .Set es k p) : lastMarks [copO o1, copO o2] [eb, ec] = false := by
  have z := cop_mark (o := o2) h
  first
    | exact z
    | (unfold lastMarks; exact z)
    | (simp only [lastMarks]; exact z)
theorem chain_rd {r r' : R2} {o1 o2 : Cop} (ok1 : R2Ok I X.K r fun x y => (cmpV o1 x y).map .bl) (ok2 : R2Ok I X.K r' fun x y => (cmpV o2 x y).map .bl) {a b c : IE} {σ : L2.St} {H : Hp} {Q : VK}
    (h : rd I X.K E O (kF I X.K) (fun ρ S => evE sg cf ρ (.chain o1 o2 a b c) S) σ H Q) : tChain r r' (rd I X.K E O (kB I X.K) (fun ρ S => evE sg cf ρ a S)) (rd I X.K E O (kB I X.K) (fun ρ S => evE sg cf ρ b S)) (rd I X.K E O (kB I X.K) (fun ρ S => evE sg cf ρ c S)) σ H Q := by
  obtain ⟨W, ρ, S, sr, q⟩ := h
  simp only [evE] at q
  refine ⟨W, ρ, S, sr, q.seq (kF_anti _ _) fun x S1 W1 H1 xv e1 n1 k1 q1 => ?_⟩
  refine ⟨W1, ρ, S1, sr.nxt n1, q1.seq (kF_anti _ _) fun y S2 W2 H2 yv e2 n2 k2 q2 => ?_⟩
  have k1' := KB.up n2.le n2.kp n1.w k1
  cases e3 : cmpV o1 x y with
  | none => rw [e3] at q2; exact q2.elim
  | some t =>
    rw [e3] at q2
    refine ok1 W2 H2 S2 x y (.bl t) xv yv _ n2.w n2.s k1' k2 (show (cmpV o1 x y).map Val.bl = some (.bl t) by rw [e3]; rfl) fun W3 H3 u le kp w3 s3 k3 => ?_
    cases k3
    have n3 : Nxt I X.K W2 H2 W3 H3 S2 := ⟨le, kp, w3, s3⟩
    cases t with
    | true =>
      simp only at q2
      refine ⟨true, rfl, ?_⟩
      rw [if_pos rfl]
      refine ⟨W3, ρ, S2, ((sr.nxt n1).nxt n2).nxt n3, (q2.shift (kF_anti _ _) n3).seq (kF_anti _ _) fun z S4 W4 H4 zv e4 n4 k4 q4 => ?_⟩
      obtain ⟨v, ev, q5⟩ := q4.of
      exact ok2 W4 H4 S4 y z v yv zv Q n4.w n4.s (KB.up n4.le n4.kp n3.w (KB.up n3.le n3.kp n2.w k2)) k4 ev q5.done
    | false =>
      simp only at q2
      refine ⟨false, rfl, ?_⟩
      rw [if_neg Bool.false_ne_true]
      exact (q2.shift (kF_anti _ _) n3).here w3 s3 (show Rp I X.K W3 H3 (.bl false) (.bl false) from rfl)
theorem j_chain {o1 o2 : Cop} {a b c : IE} {ea eb ec : Expr} {pos : Pos} (hu : X.A.units + 65 < cLine) (hs : ∀ es k p, ec ≠ .Set es k p) (ha : JE X I E O (kB I X.K) (fun ρ S => evE sg cf ρ a S) ea) (hb : JE X I E O (kB I X.K) (fun ρ S => evE sg cf ρ b S) eb) (hc : JE X I E O (kB I X.K) (fun ρ S => evE sg cf ρ c S) ec) :
    JE X I E O (kF I X.K) (fun ρ S => evE sg cf ρ (.chain o1 o2 a b c) S) (.Compare ea [copO o1, copO o2] [eb, ec] pos) := by
  obtain ⟨r, h1, h2⟩ := cop_ok X hu o1
  obtain ⟨r', h3, h4⟩ := cop_ok X hu o2
  exact PE.imp (pe_chain h1 h3 ha hb hc (last_no hs)) fun σ H Q h => chain_rd (h2 I) (h4 I) h
theorem jt_chain {o1 o2 : Cop} {a b c : IE} {ea eb ec : Expr} {pos : Pos} (hu : X.A.units + 65 < cLine) (hs : ∀ es k p, ec ≠ .Set es k p) (ha : JE X I E O (kB I X.K) (fun ρ S => evE sg cf ρ a S) ea) (hb : JE X I E O (kB I X.K) (fun ρ S => evE sg cf ρ b S) eb) (hc : JE X I E O (kB I X.K) (fun ρ S => evE sg cf ρ c S) ec) :
    JT X I E O (fun ρ S => evT sg cf ρ (.chain o1 o2 a b c) S) (.Compare ea [copO o1, copO o2] [eb, ec] pos) := by
  obtain ⟨r, h1, h2⟩ := cop_ok X hu o1
  obtain ⟨r', h3, h4⟩ := cop_ok X hu o2
  refine PT.imp (pt_chain h1 h3 ha hb hc (last_no hs)) fun σ H Q h => ?_
  obtain ⟨W, ρ, S, sr, q⟩ := h
  refine chain_rd (h2 I) (h4 I) ⟨W, ρ, S, sr, ?_⟩
  simp only [evT] at q
  refine q.seq kT_anti fun x S1 W1 H1 xv e1 n1 k1 q1 => ?_
  have e2 : ∃ t, x = .bl t := by
    simp only [evE] at e1
    cases e3 : evE sg cf ρ a S with
    | exc y T1 => rw [e3] at e1; cases e1
    | bad => rw [e3] at e1; cases e1
    | ok x1 T1 =>
      rw [e3, Res.bind_ok] at e1
      cases e4 : evE sg cf ρ b T1 with
      | exc y T2 => rw [e4] at e1; cases e1
      | bad => rw [e4] at e1; cases e1
      | ok x2 T2 =>
        rw [e4, Res.bind_ok] at e1
        cases e5 : cmpV o1 x1 x2 with
        | none => rw [e5] at e1; cases e1
        | some t =>
          rw [e5] at e1
          cases t with
          | false => cases e1; exact ⟨_, rfl⟩
          | true =>
            simp only at e1
            cases e6 : evE sg cf ρ c T2 with
            | exc y T3 => rw [e6] at e1; cases e1
            | bad => rw [e6] at e1; cases e1
            | ok x3 T3 =>
              rw [e6, Res.bind_ok] at e1
              cases e7 : cmpV o2 x2 x3 with
              | none => rw [e7] at e1; cases e1
              | some t => rw [e7] at e1; cases e1; exact ⟨_, rfl⟩
  obtain ⟨t, rfl⟩ := e2
  cases k1
  exact ⟨t, rfl, q1.here n1.w n1.s rfl⟩
end
/-! ### methods of texts -/
theorem okS_of {x : Str} (h : okS x = true) : x.length ≤ lim ∧ PyData.strOk x = true := by
  unfold okS at h
  rw [Bool.and_eq_true] at h
  exact ⟨of_decide_eq_true h.1, h.2⟩
theorem reps_str {I : XI} {K : PySem.W.Frag} {W : Wd} {H : Hp} : ∀ {ys : List Str}, ys.all okS = true → Rps I K W H (ys.map Val.str) (ys.map V.str)
  | [], _ => (rfl : ([] : List V) = [])
  | y :: r, h => by
    rw [List.all_cons, Bool.and_eq_true] at h
    exact ⟨.str y, r.map V.str, rfl, ⟨rfl, okS_of h.1⟩, reps_str h.2⟩
theorem sm_ok (m : Sm) (X : Cx) : ∃ (id : String) (r : V → List V → Hp → VK → Prop), Slot "str" ((smN m : String) : Str) id ∧ typeOf (.builtin id) = pure (.type "method_descriptor") ∧ MtR X id r ∧
    ∀ (I : XI) (W : Wd) (H : Hp) (S : Store) (a b : Str) (z : Val) (Q : VK), WOk W H → StRep I X.K W H S → a.length ≤ lim → smV m a b = some z → Done I X.K W H S z Q → r (.str a) [.str b] H Q := by
  cases m with
  | strip =>
    refine ⟨_, _, F.slot_str_strip, F.type_str_strip, mt_stripChars, fun I W H S a b z Q w s hl h d => ?_⟩
    have h : (if okS (Txt.stripChars a b) = true then some (Val.str (Txt.stripChars a b)) else none) = some z := h
    split at h
    · rename_i c
      cases h
      exact ⟨a, b, rfl, rfl, by rw [sizeLine_lim]; exact hl, d.imm w s ⟨rfl, okS_of c⟩⟩
    · cases h
  | starts =>
    refine ⟨_, _, F.slot_str_startswith, F.type_str_startswith, mt_startswith, fun I W H S a b z Q w s hl h d => ?_⟩
    cases h
    exact ⟨a, b, rfl, rfl, d.imm w s rfl⟩
  | split =>
    refine ⟨_, _, F.slot_str_split, F.type_str_split, mt_split, fun I W H S a b z Q w s hl h d => ?_⟩
    have h : (if (b.length == 0) = false ∧ a.length + 2 ≤ lim ∧ (Txt.split a b).all okS = true then some (Val.lst ((Txt.split a b).map .str)) else none) = some z := h
    split at h
    · rename_i c
      cases h
      exact ⟨a, b, rfl, rfl, c.1, by rw [sizeLine_lim]; exact c.2.1, fun p hp => d.newL w s (reps_str c.2.2) p hp⟩
    · cases h
  | partition =>
    refine ⟨_, _, F.slot_str_partition, F.type_str_partition, mt_partition, fun I W H S a b z Q w s hl h d => ?_⟩
    have h : (if (b.length == 0) = false ∧ okS (Txt.partition a b).1 = true ∧ okS (Txt.partition a b).2.1 = true ∧ okS (Txt.partition a b).2.2 = true then some (Val.tup [.str (Txt.partition a b).1, .str (Txt.partition a b).2.1, .str (Txt.partition a b).2.2]) else none) = some z := h
    split at h
    · rename_i c
      cases h
      exact ⟨a, b, rfl, rfl, c.1, by rw [sizeLine_lim]; exact hl, fun p hp => d.newT w s (reps_str (ys := [(Txt.partition a b).1, (Txt.partition a b).2.1, (Txt.partition a b).2.2]) (by simp only [List.all_cons, List.all_nil, c.2.1, c.2.2.1, c.2.2.2]; rfl)) p hp⟩
    · cases h
section
variable {X : Cx} {I : XI} {E : L2.St → XK} {O : List Nat} {sg : Sig} {cf : String → List Val → Store → Res Val}
/-- o.m(e), o a text -/
theorem j_sm1 {m : Sm} {o e : IE} {eo ee : Expr} {apos pos : Pos} (ho : JE X I E O (kB I X.K) (fun ρ S => evE sg cf ρ o S) eo) (he : JE X I E O (kB I X.K) (fun ρ S => evE sg cf ρ e S) ee) (hs : starEach [ee] X.env = [(false, eval ee X.env)])
    (hbase : attributeBase eo ((smN m : String) : Str) X.env (eval eo X.env) = eval eo X.env) (hline : (apos.endLine == pos.line) = true) : JE X I E O (kF I X.K) (fun ρ S => evE sg cf ρ (.sm1 m o e) S) (.Call (.Attribute eo ((smN m : String) : Str) apos) [ee] [] pos) := by
  obtain ⟨id, r, sl, ty, rule, ok⟩ := sm_ok m X
  refine PE.imp (pe_m1 sl ty rule ho he hs hbase hline) fun σ H Q ⟨W, ρ, S, sr, q⟩ => ⟨W, ρ, S, sr, ?_⟩
  simp only [evE] at q
  refine q.seq (kF_anti _ _) fun v S1 W1 H1 x e1 n1 k1 q1 => ?_
  cases v with
  | str a =>
    obtain ⟨rfl, h1, h2⟩ := k1
    refine ⟨⟨a, rfl⟩, W1, ρ, S1, sr.nxt n1, ?_⟩
    refine q1.seq (kF_anti _ _) fun w S2 W2 H2 y e2 n2 k2 q2 => ?_
    cases w with
    | str b =>
      obtain ⟨rfl, h3, h4⟩ := k2
      obtain ⟨z, ez, q3⟩ := q2.of
      exact ok I W2 H2 S2 a b z Q n2.w n2.s h1 ez q3.done
    | _ => exact q2.elim
  | _ => exact q1.elim
end
end Pi

end
section
set_option linter.all false
namespace Pi
open PySem PySem.Spec PyProof.Rows L2
/-- what is found here and there -/
inductive GotK (I : XI) (K : PySem.W.Frag) (H : Hp) (R : Addr → Prop) (μ : List Addr) : Option Val → Option V → Prop
  | no : GotK I K H R μ none none
  | yes (p : Val) (v : V) : RepV I K H R μ p v → GotK I K H R μ (some p) (some v)
theorem val_rep {I : XI} {K : PySem.W.Frag} {H : Hp} {R : Addr → Prop} {μ : List Addr} (y : Str) : ∀ {ks : List Str} {vs : List Val} {hk : List (Key × V)}, hk.map (·.1) = ks.map Sum.inr → RepVs I K H R μ vs (hk.map (·.2)) →
    GotK I K H R μ (lookK ks vs y) (valV hk (.inr y))
  | [], vs, [], _, _ => .no
  | [], _, _ :: _, h, _ => by cases h
  | _ :: _, _, [], h, _ => by cases h
  | k :: ks, [], kv :: hk, _, r => by cases (show _ = ([] : List V) from r)
  | k :: ks, p :: vs, kv :: hk, h, r => by
    rw [List.map_cons, List.map_cons, List.cons.injEq] at h
    obtain ⟨v, ws, e, r1, r2⟩ := r
    rw [List.map_cons, List.cons.injEq] at e
    obtain ⟨rfl, rfl⟩ := e
    obtain ⟨k', v⟩ := kv
    obtain ⟨hk1, h⟩ := h
    have hk1 : k' = Sum.inr k := hk1
    subst hk1
    have ih := val_rep y h r2
    unfold lookK at ih ⊢
    rw [List.zip_cons_cons, List.lookup_cons]
    unfold valV at ih ⊢
    rw [List.find?_cons]
    by_cases c : y = k
    · subst c
      rw [beq_self_eq_true, show decide ((Sum.inr y : Key) = Sum.inr y) = true from decide_eq_true rfl]
      exact .yes p v r1
    · rw [show (y == k) = false from beq_eq_false_iff_ne.mpr c, show decide ((Sum.inr k : Key) = Sum.inr y) = false from decide_eq_false (fun z => c (Sum.inr.inj z).symm)]
      exact ih
section
variable {X : Cx} {I : XI} {E : L2.St → XK} {O : List Nat} {sg : Sig} {cf : String → List Val → Store → Res Val}
theorem one_bind {α : Type} (r : Res Val) (f : List Val → Store → Res α) : ((r.bind fun v S1 => (.ok [v] S1 : Res (List Val))).bind f) = r.bind fun v S1 => f [v] S1 := by cases r <;> rfl
/-- d[k] -/
theorem j_dsub {d k : IE} {ed ek : Expr} {pos : Pos} (hu : X.A.units + 65 < cLine) (hs : NoSl ek) (hd : JE X I E O (kB I X.K) (fun ρ S => evE sg cf ρ d S) ed) (hk : JE X I E O (kB I X.K) (fun ρ S => evE sg cf ρ k S) ek) :
    JE X I E O (kS I X.K) (fun ρ S => evE sg cf ρ (.dsub d k) S) (.Subscript ed ek pos) := by
  refine PE.imp (pe_dget (by omega) hd hk (hs := hs)) fun σ H Q ⟨W, ρ, S, sr, q⟩ => ⟨W, ρ, S, sr, ?_⟩
  simp only [evE] at q
  refine q.seq (kS_anti _ _) fun v S1 W1 H1 x e1 n1 k1 q1 => ?_
  cases v with
  | dct ks vs =>
    refine ⟨W1, ρ, S1, sr.nxt n1, ?_⟩
    refine q1.seq (kS_anti _ _) fun w S2 W2 H2 y e2 n2 k2 q2 => ?_
    cases w with
    | str b =>
      obtain ⟨rfl, h3, h4⟩ := k2
      obtain ⟨z, ez, q3⟩ := q2.of
      have k1' : Rp I X.K W2 H2 (.dct ks vs) x := Rp.up n2.le n2.kp n1.w k1
      obtain ⟨a, hk', rfl, hR, hH, h5, h6⟩ := k1'
      have g := val_rep b h5 h6
      rw [ez] at g
      generalize hv : valV hk' (.inr b) = o at g
      cases g with
      | yes p v r => exact ⟨a, v, rfl, .inl ⟨hk', .inr b, .inl hH, rfl, hv.symm⟩, q3.here n2.w n2.s r⟩
    | _ => exact q2.elim
  | _ => exact q1.elim
/-- d.get(k) -/
theorem j_dget1 {d k : IE} {ed ek : Expr} {apos pos : Pos} (hu : X.A.units + 65 < cLine) (hm : M1 X ed "get" apos ek pos) (hd : JE X I E O (kB I X.K) (fun ρ S => evE sg cf ρ d S) ed) (hk : JE X I E O (kB I X.K) (fun ρ S => evE sg cf ρ k S) ek) :
    JE X I E O (kS I X.K) (fun ρ S => evE sg cf ρ (.dget d k []) S) (.Call (.Attribute ed "get" apos) [ek] [] pos) := by
  refine PE.imp (pe_dget1 (by omega) hd hk hm) fun σ H Q ⟨W, ρ, S, sr, q⟩ => ⟨W, ρ, S, sr, ?_⟩
  simp only [evE] at q
  refine q.seq (kS_anti _ _) fun v S1 W1 H1 x e1 n1 k1 q1 => ?_
  cases v with
  | dct ks vs =>
    have k0 := k1
    obtain ⟨a, hk0, rfl, hR0, hH0, _⟩ := k0
    refine ⟨a, rfl, .inl ⟨hk0, .inl hH0⟩, W1, ρ, S1, sr.nxt n1, ?_⟩
    refine q1.seq (kS_anti _ _) fun w S2 W2 H2 y e2 n2 k2 q2 => ?_
    cases w with
    | str b =>
      obtain ⟨rfl, h3, h4⟩ := k2
      simp only [evEs, Res.bind_ok] at q2
      obtain ⟨z, ez, q3⟩ := q2.of
      have k1' : Rp I X.K W2 H2 (.dct ks vs) (.ref a) := Rp.up n2.le n2.kp n1.w k1
      obtain ⟨a', hk', ea, hR, hH, h5, h6⟩ := k1'
      cases ea
      have g := val_rep b h5 h6
      have ez : some ((lookK ks vs b).getD .non) = some z := ez
      cases ez
      generalize hv : valV hk' (.inr b) = o at g
      generalize lookK ks vs b = l at g q3
      refine ⟨o, .inl ⟨hk', .inr b, .inl hH, rfl, hv.symm⟩, ?_⟩
      cases g with
      | yes p v r => exact q3.here n2.w n2.s r
      | no => exact q3.here n2.w n2.s (rfl : V.non = V.non)
    | _ => exact q2.elim
  | _ => exact q1.elim
/-- d.get(k, x) -/
theorem j_dget2 {d k x : IE} {ed ek ex : Expr} {apos pos : Pos} (hu : X.A.units + 65 < cLine) (hm : M2 X ed "get" apos ek ex pos) (hd : JE X I E O (kB I X.K) (fun ρ S => evE sg cf ρ d S) ed) (hk : JE X I E O (kB I X.K) (fun ρ S => evE sg cf ρ k S) ek)
    (hx : JE X I E O (kS I X.K) (fun ρ S => evE sg cf ρ x S) ex) : JE X I E O (kS I X.K) (fun ρ S => evE sg cf ρ (.dget d k [x]) S) (.Call (.Attribute ed "get" apos) [ek, ex] [] pos) := by
  refine PE.imp (pe_dget2 (by omega) hd hk hx hm) fun σ H Q ⟨W, ρ, S, sr, q⟩ => ⟨W, ρ, S, sr, ?_⟩
  simp only [evE] at q
  refine q.seq (kS_anti _ _) fun v S1 W1 H1 y1 e1 n1 k1 q1 => ?_
  cases v with
  | dct ks vs =>
    have k0 := k1
    obtain ⟨a, hk0, rfl, hR0, hH0, _⟩ := k0
    refine ⟨a, rfl, .inl ⟨hk0, .inl hH0⟩, W1, ρ, S1, sr.nxt n1, ?_⟩
    refine q1.seq (kS_anti _ _) fun w S2 W2 H2 y e2 n2 k2 q2 => ?_
    cases w with
    | str b =>
      obtain ⟨rfl, h3, h4⟩ := k2
      simp only [evEs, Res.bind_ok] at q2
      rw [one_bind] at q2
      refine ⟨W2, ρ, S2, (sr.nxt n1).nxt n2, ?_⟩
      refine q2.seq (kS_anti _ _) fun u S3 W3 H3 yu e3 n3 k3 q3 => ?_
      obtain ⟨z, ez, q4⟩ := q3.of
      have k1' : Rp I X.K W3 H3 (.dct ks vs) (.ref a) := Rp.up n3.le n3.kp n2.w (Rp.up n2.le n2.kp n1.w k1)
      obtain ⟨a', hk', ea, hR, hH, h5, h6⟩ := k1'
      cases ea
      have g := val_rep b h5 h6
      have ez : some ((lookK ks vs b).getD u) = some z := ez
      cases ez
      generalize hv : valV hk' (.inr b) = o at g
      generalize lookK ks vs b = l at g q4
      refine ⟨o, .inl ⟨hk', .inr b, .inl hH, rfl, hv.symm⟩, ?_⟩
      cases g with
      | yes p v r => exact q4.here n3.w n3.s r
      | no => exact q4.here n3.w n3.s k3
    | _ => exact q2.elim
  | _ => exact q1.elim
end
theorem m1_ok {X : Cx} {x m : Str} {p apos cpos : Pos} {e : Expr} (h : starEach [e] X.env = [(false, eval e X.env)]) (hl : (apos.endLine == cpos.line) = true) : M1 X (.Name x p) m apos e cpos := by
  refine ⟨rfl, ?_, hl, ?_⟩
  · rw [h]
    rfl
  · rw [h]
    rfl
theorem m2_ok {X : Cx} {x m : Str} {p apos cpos : Pos} {e f : Expr} (h : starEach [e, f] X.env = [(false, eval e X.env), (false, eval f X.env)]) (hl : (apos.endLine == cpos.line) = true) (hb : backTo cpos [(false, eval e X.env), (false, eval f X.env)] = [(false, eval e X.env), (false, eval f X.env)]) : M2 X (.Name x p) m apos e f cpos := by
  refine ⟨rfl, ?_, hl, ?_⟩
  · rw [h, hb]
    rfl
  · rw [h, hb]
/-! ### displays -/
theorem valV_out {k : Key} : ∀ {kvs : List (Key × V)}, k ∉ kvs.map (·.1) → valV kvs k = none
  | [], _ => rfl
  | p :: r, h => by
    rw [List.map_cons, List.mem_cons, not_or] at h
    rw [valV_neg (fun z => h.1 z.symm)]
    exact valV_out h.2
theorem merge_nd : ∀ (more acc : List (Key × V)), ((acc ++ more).map (·.1)).Nodup → mergeK acc more = acc ++ more
  | [], acc, _ => (List.append_nil acc).symm
  | p :: r, acc, h => by
    have h1 : p.1 ∉ acc.map (·.1) := by
      rw [List.map_append, List.map_cons, List.nodup_append] at h
      exact fun z => h.2.2 _ z _ (List.mem_cons_self ..) rfl
    show mergeK (putK acc p.1 p.2) r = _
    rw [putK_new p.2 (valV_out h1), merge_nd r (acc ++ [(p.1, p.2)]) (by rw [List.append_assoc]; exact h), List.append_assoc]
    rfl
/-- the new dict is filled, and shared from now on -/
theorem dict_put {I : XI} {K : PySem.W.Frag} {W W1 : Wd} {H H1 : Hp} {S1 : Store} {p : Addr} {o : HO} {kvs : List (Key × V)} (w : WOk W H) (hn : H p = none) (n : Nxt I K (W.add p) (upd H p o) W1 H1 S1) (hH : H1 p = some (.dK [])) :
    Nxt I K W H (W1.shr p) (upd H1 p (.dK kvs)) S1 ∧ Kp W1.R H1 (upd H1 p (.dK kvs)) := by
  have np : ¬ W.P p := fun z => by
    obtain ⟨u, e⟩ := w.d p z
    rw [hn] at e
    cases e
  have nr : ¬ W1.R p := fun z => np (w.rp p (n.le.n p z (.inl rfl)))
  have pp : W1.P p := n.le.p p (.inl rfl)
  have kq : ∀ Z : Addr → Prop, ¬ Z p → Kp Z H1 (upd H1 p (.dK kvs)) := fun Z nz =>
    ⟨fun x u r e => by rw [upd_ne (a := p) (b := x) (by intro z; subst z; exact nz r)]; exact e, fun x u e => by rw [upd_ne (ne_of e hH (by intro z; cases z))]; exact e,
      fun x u v e => by rw [upd_ne (ne_of e hH (by intro z; cases z))]; exact e⟩
  have kr := kq W1.R nr
  have l2 : ∀ x, W1.R x → (W1.shr p).R x := fun _ z => .inr z
  have me : ∀ a ∈ W1.μ, upd H1 p (.dK kvs) a = H1 a := fun a ha => upd_ne (a := p) (b := a) (by
    intro z
    subst z
    exact (n.w.mp _ ha).1 pp)
  refine ⟨⟨⟨fun a h => n.le.p a (.inr h), fun a h => .inr (n.le.r a h), fun a h z => ?_, n.le.m⟩, ((Kp.new hn).trans (n.kp.mono fun _ h => .inr h)).trans (kq W.P np), ⟨fun a h => ?_, fun a h => ?_, n.w.nd, fun a h => ?_⟩, ⟨n.s.len, fun m ob e => ?_⟩⟩, kr⟩
  · rcases h with h | h
    · subst h
      exact absurd z np
    · exact n.le.n a h (.inr z)
  · rcases h with h | h
    · subst h
      exact pp
    · exact n.w.rp a h
  · by_cases c : a = p
    · subst c
      exact ⟨_, upd_same⟩
    · obtain ⟨u, e⟩ := n.w.d a h
      exact ⟨u, by rw [upd_ne (a := p) (b := a) (by intro z; exact c (by first | exact z | exact z.symm))]; exact e⟩
  · obtain ⟨m1, u, e⟩ := n.w.mp a h
    exact ⟨m1, u, by rw [me a h]; exact e⟩
  · obtain ⟨a, q1, q2⟩ := n.s.ob m ob e
    refine ⟨a, q1, ?_⟩
    have ea := me a (List.mem_of_getElem? q1)
    cases ob with
    | lst l =>
      obtain ⟨ys, q3, q4⟩ := q2
      exact ⟨ys, ea.trans q3, RepVs.mono kr l2 (fun _ _ z => z) _ _ q4⟩
    | ro l =>
      obtain ⟨ys, q3, q4⟩ := q2
      refine ⟨ys, ?_, RepVs.mono kr l2 (fun _ _ z => z) _ _ q4⟩
      rcases q3 with (q3 | ⟨o, q3⟩) | q3
      · exact .inl (.inl (ea.trans q3))
      · exact .inl (.inr ⟨o, ea.trans q3⟩)
      · exact .inr q3
    | ins c fs => exact q2.elim
section
variable {X : Cx} {I : XI} {E : L2.St → XK} {O : List Nat} {sg : Sig} {cf : String → List Val → Store → Res Val}
/-- the pairs of a display -/
inductive JDs (X : Cx) (I : XI) (E : L2.St → XK) (O : List Nat) (sg : Sig) (cf : String → List Val → Store → Res Val) : List Str → List IE → List (Option Expr) → List Expr → Prop
  | nil : JDs X I E O sg cf [] [] [] []
  | cons {k : Str} {e : IE} {ks : List Str} {es : List IE} {j : Nat} {p : Pos} {ev : Expr} {kk : List (Option Expr)} {vv : List Expr} :
    JE X I E O (kS I X.K) (fun ρ S => evE sg cf ρ e S) ev → JDs X I E O sg cf ks es kk vv → JDs X I E O sg cf (k :: ks) (e :: es) (some (.Constant (.str k) j p) :: kk) (ev :: vv)
theorem JDs.all {ks : List Str} {es : List IE} {kk : List (Option Expr)} {vv : List Expr} (h : JDs X I E O sg cf ks es kk vv) : kk.all (·.isSome) = true ∧ kk.length = vv.length ∧ kk.length = ks.length := by
  induction h with
  | nil => exact ⟨rfl, rfl, rfl⟩
  | cons _ _ ih => exact ⟨by rw [List.all_cons, ih.1]; rfl, by rw [List.length_cons, List.length_cons, ih.2.1], by rw [List.length_cons, List.length_cons, ih.2.2]⟩
theorem j_pairs {pos : Pos} {ks : List Str} {es : List IE} {kk : List (Option Expr)} {vv : List Expr} (h : JDs X I E O sg cf ks es kk vv) :
    ∃ trs, PPs X pos kk vv trs ∧ ∀ σ H Q W ρ S, Sr I X.K W H O ρ σ S → At I X.K (E σ) (kSs I X.K) W H (evEs sg cf ρ es S) (fun xs H' => Q ((ks.map fun k => V.str k).zip xs) H') → tPairs trs σ H Q := by
  induction h with
  | nil => exact ⟨[], pps_nil, fun σ H Q W ρ S sr q => q.here (v := []) (x := []) sr.w sr.s (rfl : ([] : List V) = [])⟩
  | @cons k e ks es j p ev kk vv he _ ih =>
    obtain ⟨trs, h1, h2⟩ := ih
    refine ⟨(tC (.str k), rd I X.K E O (kS I X.K) fun ρ S => evE sg cf ρ e S) :: trs, pps_cons pe_str he h1, fun σ H Q W ρ S sr q => ⟨W, ρ, S, sr, ?_⟩⟩
    simp only [evEs] at q
    refine q.seq (kSs_anti _ _) fun v S1 W1 H1 y e1 n1 k1 q1 => h2 σ H1 _ W1 ρ S1 (sr.nxt n1) ?_
    refine q1.seq (kSs_anti _ _) fun vs S2 W2 H2 xs e2 n2 k2 q2 => ?_
    exact q2.here n2.w n2.s ⟨y, xs, rfl, Rp.up n2.le n2.kp n1.w k1, k2⟩
theorem zip_kv : ∀ (ks : List Str) (xs : List V), (ks.map fun k => V.str k).zip xs = ((ks.zip xs).map fun kx => ((Sum.inr kx.1 : Key), kx.2)).map fun kv => (kV kv.1, kv.2)
  | [], _ => rfl
  | _ :: _, [] => rfl
  | k :: ks, x :: xs => by
    rw [List.map_cons, List.zip_cons_cons, zip_kv ks xs]
    rfl
theorem zip_k1 : ∀ (ks : List Str) (xs : List V), ks.length = xs.length → ((ks.zip xs).map fun kx => ((Sum.inr kx.1 : Key), kx.2)).map (·.1) = ks.map Sum.inr
  | [], _, _ => rfl
  | _ :: _, [], h => by cases h
  | k :: ks, x :: xs, h => by
    rw [List.zip_cons_cons, List.map_cons, List.map_cons, zip_k1 ks xs (Nat.succ.inj h)]
    rfl
theorem zip_k2 : ∀ (ks : List Str) (xs : List V), ks.length = xs.length → ((ks.zip xs).map fun kx => ((Sum.inr kx.1 : Key), kx.2)).map (·.2) = xs
  | [], [], _ => rfl
  | [], _ :: _, h => by cases h
  | _ :: _, [], h => by cases h
  | k :: ks, x :: xs, h => by
    rw [List.zip_cons_cons, List.map_cons, List.map_cons, zip_k2 ks xs (Nat.succ.inj h)]
/-- {k: e, ..} -/
theorem j_dctE {pos : Pos} {ks : List Str} {es : List IE} {kk : List (Option Expr)} {vv : List Expr} (h : JDs X I E O sg cf ks es kk vv) (h0 : kk ≠ []) (h15 : kk.length ≤ 15) :
    JE X I E O (kS I X.K) (fun ρ S => evE sg cf ρ (.dctE ks es) S) (.Dict kk vv pos) := by
  obtain ⟨trs, pp, hp⟩ := j_pairs (pos := pos) h
  refine PE.imp (pe_disp pp h.all.1 h.all.2.1 h0 h15) fun σ H Q ⟨W, ρ, S, sr, q⟩ p hn => ?_
  simp only [evE] at q
  have nn : Nxt I X.K W H (W.add p) (upd H p (.dK [])) S := ⟨le_add, Kp.new hn, wok_add hn sr.w, st_add hn sr.w sr.s⟩
  refine hp σ _ _ (W.add p) ρ S (sr.nxt nn) ?_
  cases e : evEs sg cf ρ es S with
  | bad =>
    rw [e] at q
    exact q
  | exc y S' =>
    rw [e] at q
    have q : At I X.K (E σ) (kS I X.K) W H (.exc y S') Q := q
    exact fun W' H' cls d n k => q W' H' cls d ⟨le_add.trans n.le, (Kp.new hn).trans (n.kp.mono fun _ z => .inr z), n.w, n.s⟩ k
  | ok vs S' =>
    rw [e, Res.bind_ok] at q
    intro W' H' xs n k
    split at q
    · rename_i c
      obtain ⟨nd, hl, _, hm⟩ := c
      have k : Rps I X.K W' H' vs xs := k
      have hx : ks.length = xs.length := hl.trans (RepVs.length k)
      have hH : H' p = some (.dK []) := n.kp.k p _ (.inl rfl) upd_same
      refine ⟨hH, (ks.zip xs).map (fun kx => ((Sum.inr kx.1 : Key), kx.2)), zip_kv ks xs, ?_, ?_⟩
      · rw [List.length_map, List.length_zip]
        omega
      · have nd' : (((ks.zip xs).map fun kx => ((Sum.inr kx.1 : Key), kx.2)).map (·.1)).Nodup := by
          rw [zip_k1 ks xs hx]
          exact List.Pairwise.map Sum.inr (fun a b z w => z (Sum.inr.inj w)) nd
        rw [merge_nd _ [] nd', List.nil_append]
        obtain ⟨g1, g2⟩ := dict_put (kvs := (ks.zip xs).map fun kx => ((Sum.inr kx.1 : Key), kx.2)) sr.w hn n hH
        refine q _ _ _ g1 ⟨p, _, rfl, .inl rfl, upd_same, zip_k1 ks xs hx, ?_⟩
        rw [zip_k2 ks xs hx]
        exact RepVs.mono g2 (fun _ z => .inr z) (fun _ _ z => z) _ _ k
    · exact q.elim
end
theorem m1_okD {X : Cx} {m : Str} {kk : List (Option Expr)} {vv : List Expr} {p apos cpos : Pos} {e : Expr} (h : starEach [e] X.env = [(false, eval e X.env)]) (hl : (apos.endLine == cpos.line) = true) : M1 X (.Dict kk vv p) m apos e cpos := by
  refine ⟨rfl, ?_, hl, ?_⟩
  · rw [h]
    rfl
  · rw [h]
    rfl
end Pi

end
section
set_option linter.all false
set_option maxRecDepth 100000
/-! PiKw: sum with a start, max with a default. -/
namespace Pi
open PySem PySem.Spec PyProof.Rows L2
section
variable {prog : Program} {w : World} {A : Around} {E : Value → Shared → Prop} {s : Shared}
/-- a plain function of the machine, called by keywords, too -/
theorem call_kwt {id : String} {b : Builtin} {us : List Value} {kw : List (Str × Value)} {Q : Value → Shared → Prop} (hk : builtinKind id = none) (hp : plainId id = true) (hb : entryFor table id = some b) (ha : argsOk id ⟨us, kw⟩)
    (hc : wpAny (model prog w) A.in1 (b ⟨us, kw⟩) (fun f s' => match f with
      | .done g => (match (Except.ok g : Result) with
        | .ok (.ret v) => Q v s'
        | .ok _ => False
        | .error e => E e s')
      | .again c => c.quiet = true ∧ codeAny (model prog w) A c (fun r s2 => match r with
        | .ok (.ret v) => Q v s2
        | .ok _ => False
        | .error e => E e s2) s') E s) : wpAny (model prog w) A (call (.builtin id) us kw) Q E s := by
  refine wpAny_call (codeAny_call_builtin hp hb ?_)
  simp only [checkBuiltinCall, hk]
  cases hg : Manifest.signature? id with
  | none => exact wpAny_pure hc
  | some g =>
    simp only [argsOk, hg] at ha
    have e : Bind.checkArgs id g ⟨us, kw⟩ = pure () := ha
    show wpAny _ A.in1 (Bind.checkArgs id g ⟨us, kw⟩) _ _ s
    rw [e]
    exact wpAny_pure hc
end
/-! ### sum -/
def shV (d : Int) (val : Nat → Int) : Nat → Int
  | 0 => d
  | j + 1 => val j
theorem shV_sum (d : Int) (val : Nat → Int) : ∀ n, preSum (shV d val) (n + 1) = d + preSum val n
  | 0 => by
    show (0 : Int) + d = d + 0
    omega
  | n + 1 => by
    have := shV_sum d val n
    show preSum (shV d val) (n + 1) + val n = d + (preSum val n + val n)
    omega
def shP (P : Nat → Value → Prop) : Nat → Value → Prop
  | 0, _ => False
  | j + 1, v => P j v
def shS (St : Nat → Heap → Prop) : Nat → Heap → Prop
  | 0, _ => False
  | j + 1, h => St j h
theorem walks_sh {prog : Program} {w : World} {A : Around} {I : Addr} {fp wr : List Addr} {n : Nat} {P : Nat → Value → Prop} {St : Nat → Heap → Prop} (W : Walks prog w A I fp wr n P St) : Walks prog w A I fp wr (n + 1) (shP P) (shS St) where
  sub := W.sub
  frame := fun i h h' st k => by
    cases i with
    | zero => exact st
    | succ i => exact W.frame i h h' st k
  item := fun i s Q E hi st q => by
    cases i with
    | zero => exact st.elim
    | succ i => exact W.item i s Q E (by omega) st q
  done := fun s Q E st q => W.done s Q E st q
  self := fun i s Q E st q => by
    cases i with
    | zero => exact st.elim
    | succ i => exact W.self i s Q E st q
section
variable {prog : Program} {w : World} {A : Around} {E : Value → Shared → Prop} {s : Shared} {l : Addr}
theorem args_sumS (a b : Value) : argsOk "sum" ⟨[a], [(Str.ofString "start", b)]⟩ := by unfold argsOk; kernel_rfl
theorem args_maxD (a b : Value) : argsOk "max" ⟨[a], [(Str.ofString "default", b)]⟩ := by unfold argsOk; kernel_rfl
theorem sum_startI {xs : Array (Int × Tok)} {d : Int} {t : Tok} {Q : Value → Shared → Prop} (hh : A.handled = none) (hl : s.heap.IsList l (intItems xs))
    (h : ∀ h' tk t', (∀ b o, s.heap.get? b = some o → h'.get? b = some o) → Q (.int (d + preSum (numAt xs) xs.size) t') { s with heap := h', toks := tk }) :
    wpAny (model prog w) A (call (.builtin "sum") [.ref l] [(Str.ofString "start", .int d t)]) Q E s := by
  have fin : ∀ (s₂ : Shared) (t0 : Tok) (tk : Nat) (stage : Int), (stage = 0 ∨ stage = 2) → s₂ = { s with heap := s.heap.push { cls := .type "list_iterator", data := .fields #[.ref l, .int 0 0] } } →
      (s₂.heap.IsListIter s.heap.objs.size l 0 ∧ s₂.heap.IsList l (intItems xs)) → (∀ b ∈ [s.heap.objs.size, l], b < s₂.heap.objs.size) → l ≠ s.heap.objs.size →
      wpAny (model prog w) A.in1 (do again (.builtin "sum.loop" ⟨[.ref s.heap.objs.size, ← newList [.int d t0], rawInt stage, rawInt 0], []⟩)) (fun f s' => match f with
      | .done g => (match (Except.ok g : Result) with
        | .ok (.ret v) => Q v s'
        | .ok _ => False
        | .error e => E e s')
      | .again c => c.quiet = true ∧ codeAny (model prog w) A c (fun r s2 => match r with
        | .ok (.ret v) => Q v s2
        | .ok _ => False
        | .error e => E e s2) s') E { s₂ with toks := tk } := by
    intro s₂ t0 tk stage hst e st hfp hlI
    have W := walks_sh (Walks.list (prog := prog) (w := w) (A := A.in1) hh _ l hlI (intItems xs))
    refine wpAny_bind (wpAny_newObj_type ?_)
    have hSf : s₂.heap.objs.size ∉ [s.heap.objs.size, l] := fun hm => Nat.lt_irrefl _ (hfp _ hm)
    have hv : ∀ i v, shP (fun i v => (intItems xs)[i]? = some v) i v → ∃ t, v = .int (shV d (numAt xs) i) t := fun i v hp => by
      cases i with
      | zero => exact hp.elim
      | succ i => exact intItems_at hp
    have e1 : preSum (shV d (numAt xs)) 1 = d := by
      show (0 : Int) + d = d
      omega
    refine wpAny_pure ⟨plainId_quiet F.plain_sum_loop _, codeAny_sum_loopG W (shV d (numAt xs)) hv s₂.heap.objs.size hSf (intItems xs).size 1 _ t0 0 stage hst (by omega) (by omega)
      (W.frame 1 s₂.heap _ st fun b _ o q => Heap.get?_push_of_some _ q) ?_ fun h' tk t' hk => ?_⟩
    · rw [e1]
      exact Heap.get?_push_size _ rfl
    · rw [shV_sum]
      have sz : (intItems xs).size = xs.size := by simp [intItems]
      rw [sz]
      subst e
      refine h h' tk t' fun b o q => ?_
      have lt := Heap.lt_size q
      have lt2 : b < (s.heap.push { cls := .type "list_iterator", data := .fields #[.ref l, .int 0 0] }).objs.size := Nat.lt_of_lt_of_le lt (by rw [Heap.size_push]; exact Nat.le_succ _)
      exact hk b o (fun hm => Nat.lt_irrefl _ (by rw [List.mem_singleton] at hm; rw [hm] at lt; exact lt)) (Nat.ne_of_lt lt2) (Heap.get?_push_of_some _ (Heap.get?_push_of_some _ q))
  refine call_kwt F.kind_sum F.plain_sum F.entry_sum (args_sumS _ _) ?_
  unfold Builtin.«sum»
  simp only [List.length_cons, List.length_nil]
  rw [if_neg (by decide)]
  refine wpAny_bind (wpAny_of_eq (show Builtin.Builtins.bindParams "sum" ["start"] 0 ⟨[], [(Str.ofString "start", .int d t)]⟩ = pure [some (.int d t)] from rfl) ?_)
  refine wpAny_bind (iter_intList hl fun s₂ e st hfp hlI => ?_)
  have go : ∀ (t0 : Tok) (tk : Nat) (stage : Int), (stage = 0 ∨ stage = 2) → wpAny (model prog w) A.in1 (do
      for (ty, what, hint) in [("str", "strings", "''"), ("bytes", "bytes", "b''"), ("bytearray", "bytearray", "b''")] do
        if ← isInstance (.int d t0) (.type ty) then
          rule "sum.start-refused"; raiseError "TypeError" s!"sum() can't sum {what} [use {hint}.join(seq) instead]"
      again (.builtin "sum.loop" ⟨[.ref s.heap.objs.size, ← newList [.int d t0], rawInt stage, rawInt 0], []⟩)) (fun f s' => match f with
      | .done g => (match (Except.ok g : Result) with
        | .ok (.ret v) => Q v s'
        | .ok _ => False
        | .error e => E e s')
      | .again c => c.quiet = true ∧ codeAny (model prog w) A c (fun r s2 => match r with
        | .ok (.ret v) => Q v s2
        | .ok _ => False
        | .error e => E e s2) s') E { s₂ with toks := tk } := by
    intro t0 tk stage hst
    simp only [List.forIn_cons, List.forIn_nil]
    refine wpAny_bind (wpAny_bind (wpAny_bind (wpAny_isInstance (T := "int") (b := false) (typeIs_int _ _ _) PySem.sub_int_str ?_)))
    simp only [Bool.false_eq_true, if_false]
    refine wpAny_pure (wpAny_bind (wpAny_bind (wpAny_isInstance (T := "int") (b := false) (typeIs_int _ _ _) PySem.sub_int_bytes ?_)))
    simp only [Bool.false_eq_true, if_false]
    refine wpAny_pure (wpAny_bind (wpAny_bind (wpAny_isInstance (T := "int") (b := false) (typeIs_int _ _ _) PySem.sub_int_bytearray ?_)))
    simp only [Bool.false_eq_true, if_false]
    refine wpAny_pure (wpAny_pure ?_)
    exact fin s₂ t0 tk stage hst e st hfp hlI
  simp only
  split
  · refine wpAny_bind (wpAny_rule (wpAny_bind (wpAny_mkInt (wpAny_bind (wpAny_pure ?_)))))
    exact go _ _ 0 (.inl rfl)
  · refine wpAny_bind (wpAny_pure ?_)
    exact go t _ 2 (.inr rfl)
end
/-! ### max -/
section
variable {prog : Program} {w : World} {A : Around} {R : Result → Shared → Prop} {I : Addr} {fp wr : List Addr} {n : Nat} {P : Nat → Value → Prop} {St : Nat → Heap → Prop}
theorem mxd_loop (W : Walks prog w A.in1 I fp wr n P St) (bt : Nat → Nat → Bool) (hc : CmpOf prog w A.in1 .Gt P bt) (S : Addr) (hf : S ∉ fp) (d : Value) :
    ∀ (k i : Nat) (s : Shared) (best : Array Value) (c : Nat), n - i = k → i ≤ n → St i s.heap → (i = 0 ∧ best = #[] ∨ 0 < i ∧ ∃ vb, best = #[vb, vb] ∧ P (argBest bt (i - 1)) vb) →
      s.heap.get? S = some { cls := .type "list", dict := none, data := .seq best c, slots := #[] } →
      (∀ v h' tk, (n = 0 ∧ v = d ∨ 0 < n ∧ P (argBest bt (n - 1)) v) → (∀ b o, b ∉ wr → b ≠ S → s.heap.get? b = some o → h'.get? b = some o) → R (.ok (.ret v)) { s with heap := h', toks := tk }) →
      codeAny (model prog w) A (.builtin "max.loop" ⟨[.ref I, .none, .ref S], [(Str.ofString "default", d)]⟩) R s := by
  have sw : S ∉ wr := fun h => hf (W.sub _ h)
  have nm : (toString "max" ++ toString ".loop" : String) = "max.loop" := by decide
  intro k
  induction k with
  | zero =>
    intro i s best c hk hi st hb hS hR
    obtain rfl : i = n := by omega
    refine codeAny_builtin F.entry_max_loop ?_; rw [Around.under_plainId F.plain_max_loop _]
    show wpAny _ A.in1 (seqItems? (.ref S) >>= fun _ => _) _ _ s
    refine wpAny_bind (wpAny_seqItems hS rfl ?_); show wpAny _ A.in1 (tryCatch (pyNext (.ref I)) _ >>= fun _ => _) _ _ s
    refine wpAny_bind (wpAny_tryCatch (W.done s _ _ st fun h' tk hk' => ?_))
    have hS' := hk' S _ sw hS
    rcases hb with ⟨rfl, rfl⟩ | ⟨h0, vb, rfl, hP⟩
    · refine wpAny_bind (wpAny_rule (wpAny_pure ?_))
      exact hR d h' tk (.inl ⟨rfl, rfl⟩) fun b o hw _ e => hk' b o hw e
    · show wpAny _ A.in1 (updateSeq S (fun _ => #[]) >>= fun _ => _) _ _ _
      refine wpAny_bind (wpAny_updateSeq hS' rfl (wpAny_bind (wpAny_letGo (wpAny_pure ?_))))
      exact hR vb _ tk (.inr ⟨h0, hP⟩) fun b o hw hbS e => (Heap.get?_update_other _ _ (Ne.symm hbS)).trans (hk' b o hw e)
  | succ k ih =>
    intro i s best c hk hi st hb hS hR
    have lt : i < n := by omega
    refine codeAny_builtin F.entry_max_loop ?_; rw [Around.under_plainId F.plain_max_loop _]
    show wpAny _ A.in1 (seqItems? (.ref S) >>= fun _ => _) _ _ s
    refine wpAny_bind (wpAny_seqItems hS rfl ?_); show wpAny _ A.in1 (tryCatch (pyNext (.ref I)) _ >>= fun _ => _) _ _ s
    refine wpAny_bind (wpAny_tryCatch (W.item i s _ _ lt st fun v h' tk hP st' hk' => ?_))
    have hS' := hk' S _ sw hS
    have fr : ∀ (f : Obj → Obj), St (i + 1) (h'.update S f) := fun f => W.frame _ _ _ st' fun b hbf o e => (Heap.get?_update_other _ _ (fun z : S = b => hf (by rw [z]; exact hbf))).trans e
    rcases hb with ⟨rfl, rfl⟩ | ⟨h0, vb, rfl, hPb⟩
    · show wpAny _ A.in1 (updateSeq S (fun _ => #[v, v]) >>= fun _ => _) _ _ _
      refine wpAny_bind (wpAny_updateSeq hS' rfl ?_)
      rw [nm]
      refine wpAny_pure ⟨plainId_quiet F.plain_max_loop _, ih 1 _ #[v, v] _ (by omega) lt (fr _) (.inr ⟨by omega, v, rfl, hP⟩) (Heap.get?_update_self _ hS' rfl) fun v' h2 tk2 hP2 hk2 => ?_⟩
      exact hR v' h2 tk2 hP2 fun b o hw hbS e => hk2 b o hw hbS ((Heap.get?_update_other _ _ (Ne.symm hbS)).trans (hk' b o hw e))
    · obtain ⟨j, rfl⟩ : ∃ j, i = j + 1 := ⟨i - 1, by omega⟩
      have hPb : P (argBest bt j) vb := hPb
      show wpAny _ A.in1 (tryCatch (holding [v, v] (richCompare .Gt v vb >>= fun _ => _)) _ >>= fun _ => _) _ _ _
      refine wpAny_bind (wpAny_tryCatch (wpAny_holding (wpAny_bind (hc (j + 1) (argBest bt j) v vb _ _ _ hP hPb (wpAny_bind (wpAny_holding (wpAny_truthy_bool (wpAny_bind (wpAny_letGo (wpAny_pure ?_))))))))))
      cases hq : bt (j + 1) (argBest bt j) with
      | true =>
        simp only [if_true]
        refine wpAny_bind (wpAny_updateSeq hS' rfl (wpAny_bind (wpAny_letGo ?_)))
        rw [nm]
        refine wpAny_pure ⟨plainId_quiet F.plain_max_loop _, ih (j + 1 + 1) _ #[v, v] _ (by omega) lt (fr _) (.inr ⟨by omega, v, rfl, ?_⟩) (Heap.get?_update_self _ hS' rfl) fun v' h2 tk2 hP2 hk2 => ?_⟩
        · show P (argBest bt (j + 1)) v
          simp only [argBest, hq, if_true]
          exact hP
        · exact hR v' h2 tk2 hP2 fun b o hw hbS e => hk2 b o hw hbS ((Heap.get?_update_other _ _ (Ne.symm hbS)).trans (hk' b o hw e))
      | false =>
        simp only [Bool.false_eq_true, if_false]
        refine wpAny_bind (wpAny_letGo ?_)
        rw [nm]
        refine wpAny_pure ⟨plainId_quiet F.plain_max_loop _, ih (j + 1 + 1) _ #[vb, vb] c (by omega) lt st' (.inr ⟨by omega, vb, rfl, ?_⟩) hS' fun v' h2 tk2 hP2 hk2 => ?_⟩
        · show P (argBest bt (j + 1)) vb
          simp only [argBest, hq, Bool.false_eq_true, if_false]
          exact hPb
        · exact hR v' h2 tk2 hP2 fun b o hw hbS e => hk2 b o hw hbS (hk' b o hw e)
end
section
variable {prog : Program} {w : World} {A : Around} {E : Value → Shared → Prop} {s : Shared} {l : Addr}
theorem max_dfltI {xs : Array (Int × Tok)} {d : Value} {Q : Value → Shared → Prop} (hh : A.handled = none) (hl : s.heap.IsList l (intItems xs))
    (h : ∀ v h' tk, (xs.size = 0 ∧ v = d ∨ 0 < xs.size ∧ (intItems xs)[argBest (fun i j => decide (numAt xs i > numAt xs j)) (xs.size - 1)]? = some v) → (∀ b o, s.heap.get? b = some o → h'.get? b = some o) → Q v { s with heap := h', toks := tk }) :
    wpAny (model prog w) A (call (.builtin "max") [.ref l] [(Str.ofString "default", d)]) Q E s := by
  have nm : (toString "max" ++ toString ".loop" : String) = "max.loop" := by decide
  refine call_kwt F.kind_max F.plain_max F.entry_max (args_maxD _ _) ?_
  show wpAny _ A.in1 (Builtin.Builtins.bindParams "max" ["key", "default"] 0 ⟨[], [(Str.ofString "default", d)]⟩ >>= fun _ => _) _ _ s
  refine wpAny_bind (wpAny_of_eq (show Builtin.Builtins.bindParams "max" ["key", "default"] 0 ⟨[], [(Str.ofString "default", d)]⟩ = pure [none, some d] from rfl) ?_)
  refine wpAny_bind (wpAny_pure ?_)
  refine wpAny_bind (iter_intList hl fun s₂ e st hfp hlI => ?_)
  refine wpAny_bind (wpAny_newObj_type ?_)
  have hf : s₂.heap.objs.size ∉ [s.heap.objs.size, l] := fun hm => Nat.lt_irrefl _ (hfp _ hm)
  have W := Walks.list (prog := prog) (w := w) (A := A.in1) hh _ l hlI (intItems xs)
  have sz : (intItems xs).size = xs.size := by simp [intItems]
  rw [nm]
  refine wpAny_pure ⟨plainId_quiet F.plain_max_loop _, mxd_loop W (fun i j => decide (numAt xs i > numAt xs j)) (CmpOf.ints_gt (numAt xs) (fun _ _ => intItems_at)) s₂.heap.objs.size hf d (intItems xs).size 0 _ #[] 0 rfl (Nat.zero_le _)
    (W.frame 0 s₂.heap _ st fun b _ o q => Heap.get?_push_of_some _ q) (.inl ⟨rfl, rfl⟩) (Heap.get?_push_size _ rfl) fun v h' tk hP hk => ?_⟩
  rw [sz] at hP
  subst e
  refine h v h' tk hP fun b o q => ?_
  have lt := Heap.lt_size q
  have lt2 : b < (s.heap.push { cls := .type "list_iterator", data := .fields #[.ref l, .int 0 0] }).objs.size := Nat.lt_of_lt_of_le lt (by rw [Heap.size_push]; exact Nat.le_succ _)
  exact hk b o (fun hm => Nat.lt_irrefl _ (by rw [List.mem_singleton] at hm; rw [hm] at lt; exact lt)) (Nat.ne_of_lt lt2) (Heap.get?_push_of_some _ (Heap.get?_push_of_some _ q))
end
/-! ### the built-ins, by value -/
def rSumS (K : PySem.W.Frag) : List V → List V → Hp → VK → Prop := fun vs zs H Q => ∃ (a : Addr) (ns : List Int) (d : Int), vs = [V.ref a] ∧ zs = [V.int d] ∧ SqL K H a (ns.map V.int) ∧ Q (.int (d + ns.sum)) H
def rMaxD (K : PySem.W.Frag) : List V → List V → Hp → VK → Prop := fun vs zs H Q => ∃ (a : Addr) (ns : List Int) (d : Int), vs = [V.ref a] ∧ zs = [V.int d] ∧ SqL K H a (ns.map V.int) ∧ Q (.int ((maxI ns).getD d)) H
section
variable {X : Cx}
theorem cr_sumS (hc : X.calm = true) : CallRK X (.builtin "sum") [Str.ofString "start"] (rSumS X.K) := by
  intro pins s σ H vs zs us ws Q I r rz h
  obtain ⟨a, ns, d, rfl, rfl, hs, q⟩ := h
  obtain ⟨its, rv, hl, _⟩ := I.list hs
  obtain rfl := Vals.ref1 r
  obtain ⟨w1, rfl, e1⟩ := vals1 rz
  obtain ⟨t, rfl⟩ : ∃ t, w1 = Value.int d t := e1
  have hi := rv.ints
  have hl := hl.isList
  obtain ⟨xs, e⟩ := hi.allInts.items
  have hn : numsOf (intItems xs).toList = ns := by rw [← e]; exact hi.numsOf
  rw [nums_intItems] at hn
  rw [e] at hl
  refine sum_startI (I.ok.hd hc) hl fun h' tk t' hk => ⟨.int _, H, I.kept hk, ⟨_, rfl⟩, ?_⟩
  rw [preSum_eq, List.take_of_length_le (by simp), hn]
  exact q
theorem maxI_best {ns : List Int} {M : Int} (h1 : M ∈ ns) (h2 : ∀ a, a ∈ ns → a ≤ M) : maxI ns = some M := by
  cases e : maxI ns with
  | none => cases ns with
    | nil => cases h1
    | cons x r => cases r with
      | nil => cases e
      | cons y r =>
        have e : (maxI (y :: r)).map (fun m => if m > x then m else x) = none := e
        have ne : ∀ (l : List Int) (y : Int), ∃ m, maxI (y :: l) = some m := fun l => by
          induction l with
          | nil => exact fun y => ⟨y, rfl⟩
          | cons z l ih =>
            intro y
            obtain ⟨m, hm⟩ := ih z
            exact ⟨_, by show (maxI (z :: l)).map _ = _; rw [hm]; rfl⟩
        obtain ⟨m, hm⟩ := ne r y
        rw [hm] at e
        cases e
  | some m =>
    obtain ⟨m1, m2⟩ := maxI_ok e
    rw [Int.le_antisymm (h2 m m1) (m2 M h1)]
theorem cr_maxD (hc : X.calm = true) : CallRK X (.builtin "max") [Str.ofString "default"] (rMaxD X.K) := by
  intro pins s σ H vs zs us ws Q I r rz h
  obtain ⟨a, ns, d, rfl, rfl, hs, q⟩ := h
  obtain ⟨its, rv, hl, _⟩ := I.list hs
  obtain rfl := Vals.ref1 r
  obtain ⟨w1, rfl, e1⟩ := vals1 rz
  obtain ⟨t, rfl⟩ : ∃ t, w1 = Value.int d t := e1
  have hi := rv.ints
  have hl := hl.isList
  obtain ⟨xs, e⟩ := hi.allInts.items
  have hn : numsOf (intItems xs).toList = ns := by rw [← e]; exact hi.numsOf
  rw [nums_intItems] at hn
  subst hn
  rw [e] at hl
  refine max_dfltI (I.ok.hd hc) hl fun v h' tk hv hk => ?_
  rcases hv with ⟨h0, rfl⟩ | ⟨h0, hv⟩
  · have e0 : xs.toList.map (·.1) = [] := by
      have : xs.toList.length = 0 := by rw [Array.length_toList]; exact h0
      rw [List.length_eq_zero_iff.mp this]
      rfl
    rw [e0] at q
    exact ⟨.int d, H, I.kept hk, ⟨_, rfl⟩, q⟩
  · obtain ⟨t2, rfl⟩ := intItems_at hv
    obtain ⟨g1, g2⟩ := argBest_gt (numAt xs) (xs.size - 1)
    have m1 : numAt xs (argBest (fun i j => decide (numAt xs i > numAt xs j)) (xs.size - 1)) ∈ xs.toList.map (·.1) := by
      rw [numAt_eq]
      exact PySem.getD_mem (by rw [List.length_map, Array.length_toList]; omega)
    have m2 : ∀ a, a ∈ xs.toList.map (·.1) → a ≤ numAt xs (argBest (fun i j => decide (numAt xs i > numAt xs j)) (xs.size - 1)) := fun a ha => by
      obtain ⟨j, hj, rfl⟩ := mem_getD ha
      rw [List.length_map, Array.length_toList] at hj
      rw [← numAt_eq]
      exact g2 j (by omega)
    rw [maxI_best m1 m2] at q
    exact ⟨.int _, H, I.kept hk, ⟨_, rfl⟩, q⟩
end
/-- the name of a built-in called with one keyword, the keyword -/
def bkN : Bi → Option (String × String)
  | .sumS => some ("sum", "start") | .maxD => some ("max", "default") | _ => none
theorem bk_ok (X : Cx) (hc : X.calm = true) (b : Bi) (n k : String) (e : bkN b = some (n, k)) :
    ∃ r, CallRK X (.builtin n) [Str.ofString k] r ∧ ∀ (I : XI) (W : Wd) (H : Hp) (S : Store) (p1 p2 z : Val) (v1 v2 : V) (Q : VK), WOk W H → StRep I X.K W H S → KB I X.K W H p1 v1 → Rp I X.K W H p2 v2 → biV S b [p1, p2] = some z → Done I X.K W H S z Q → r [v1] [v2] H Q := by
  cases b <;> cases e
  · refine ⟨_, cr_sumS hc, fun I W H S p1 p2 z v1 v2 Q w s h1 h2 h d => ?_⟩
    match p1, p2, h with
    | .lst l, .int i, h =>
      have h : (intsV l).map (fun ns => Val.int (i + ns.sum)) = some z := h
      obtain ⟨ns, q, rfl⟩ := Option.map_eq_some_iff.mp h
      obtain ⟨a, xs, rfl, g1, g2⟩ := h1
      cases h2
      exact ⟨a, ns, i, rfl, rfl, by rw [← ints_rep g2 q]; exact g1.sq, d.imm w s rfl⟩
  · refine ⟨_, cr_maxD hc, fun I W H S p1 p2 z v1 v2 Q w s h1 h2 h d => ?_⟩
    match p1, p2, h with
    | .lst l, .int i, h =>
      have h : (intsV l).map (fun ns => Val.int ((maxI ns).getD i)) = some z := h
      obtain ⟨ns, q, rfl⟩ := Option.map_eq_some_iff.mp h
      obtain ⟨a, xs, rfl, g1, g2⟩ := h1
      cases h2
      exact ⟨a, ns, i, rfl, rfl, by rw [← ints_rep g2 q]; exact g1.sq, d.imm w s rfl⟩
section
variable {X : Cx} {I : XI} {E : L2.St → XK} {O : List Nat} {sg : Sig} {cf : String → List Val → Store → Res Val}
theorem kws_one {nm : Str} {e : Expr} {kp pos : Pos} {env : PySem.Env} : (backToKw pos (keywordEach [⟨some nm, e, kp⟩] env)).all (·.1.isSome) = true ∧ (backToKw pos (keywordEach [⟨some nm, e, kp⟩] env)).any (·.1.isNone) = false ∧
    (backToKw pos (keywordEach [⟨some nm, e, kp⟩] env)).filterMap (·.1) = [nm] := ⟨rfl, rfl, rfl⟩
theorem j_bk {b : Bi} {n k : String} {a d : IE} {ea ed : Expr} {p kp pos : Pos} (hc : X.calm = true) (e : bkN b = some (n, k)) (hg : Gl X (n : Str)) (hm : X.mg (n : Str) = none) (hd : ((n : Str) == ("__debug__" : Str)) = false)
    (ha : JE X I E O (kB I X.K) (fun ρ S => evE sg cf ρ a S) ea) (hk : JE X I E O (kS I X.K) (fun ρ S => evE sg cf ρ d S) ed) (hst : starEach [ea] X.env = [(false, eval ea X.env)]) :
    JE X I E O (kF I X.K) (fun ρ S => evE sg cf ρ (.bi b [a, d]) S) (.Call (.Name (n : Str) p) [ea] [⟨some (k : Str), ed, kp⟩] pos) := by
  obtain ⟨r, h1, h2⟩ := bk_ok X hc b n k e
  have hv : bootBuiltins (n : Str) = some (.builtin n) := by
    cases b <;> cases e
    · decide +kernel
    · decide +kernel
  have hn : (n : Str) ≠ "__name__" := by
    cases b <;> cases e
    · decide +kernel
    · decide +kernel
  refine PE.imp (pe_callBK (ks := [Str.ofString k]) h1 hg hm hv (ja_consB ha ja_nilB hst) (jk_cons hk jk_nil) hn hd (by rw [hst]; rfl) (by rw [hst]; rfl) kws_one.1 kws_one.2.1 kws_one.2.2) fun σ H Q ⟨W, ρ, S, sr, q⟩ => ⟨W, ρ, S, sr, ?_⟩
  simp only [evE, evEs] at q
  show At I X.K (E σ) (kBs I X.K) W H (evEs sg cf ρ [a] S) _
  rw [evEs_one]
  cases e2 : evE sg cf ρ a S with
  | bad =>
    rw [e2] at q
    exact q
  | exc y S1 =>
    rw [e2] at q
    exact q
  | ok v S1 =>
    rw [e2] at q
    intro W1 H1 vs n1 k1
    obtain ⟨y, ws, rfl, ry, rz⟩ := (show ∃ u us, vs = u :: us ∧ KB I X.K W1 H1 v u ∧ us = [] from k1)
    subst rz
    refine ⟨W1, ρ, S1, sr.nxt n1, ?_⟩
    show At I X.K (E σ) (kSs I X.K) W1 H1 (evEs sg cf ρ [d] S1) _
    rw [evEs_one]
    have q := At.shift (kF_anti _ _) n1 q
    cases e3 : evE sg cf ρ d S1 with
    | bad =>
      simp only [Res.bind_ok, e3] at q
      exact q
    | exc y S2 =>
      simp only [Res.bind_ok, e3] at q
      exact q
    | ok u S2 =>
      simp only [Res.bind_ok, e3] at q
      intro W2 H2 zs n2 k2
      obtain ⟨y2, rfl, ry2⟩ := rps_one k2
      obtain ⟨z, ez, q3⟩ := (At.shift (kF_anti _ _) n2 q).of
      exact h2 I W2 H2 S2 v u z y y2 Q n2.w n2.s (KB.up n2.le n2.kp n1.w ry) ry2 ez q3.done
end
/-! ### insert, two stores at once -/
section
variable {X : Cx} {I : XI} {E : XK} {W0 : Wd} {H0 : Hp} {fr : Bool} {OL : List Nat} {O : List Nat} {O' : Option (List Nat)} {sg : Sig} {cf : String → List Val → Store → Res Val}
/-- x.insert(k, e), x one's own -/
theorem js_ins {i : Nat} {x : Str} {k e : IE} {ek ee : Expr} {p apos cpos pos : Pos} (hi : i ∈ O) (hN : X.N[i]? = some x) (hv : Vis X.env.scope x) (hd : (x == ("__debug__" : Str)) = false) (hcd : (x == ("__classdict__" : Str)) = false)
    (hline : (apos.endLine == cpos.line) = true) (hk : JE X I (fun _ => E) O (kS I X.K) (fun ρ S => evE sg cf ρ k S) ek) (he : JE X I (fun _ => E) O (kS I X.K) (fun ρ S => evE sg cf ρ e S) ee)
    (hst : starEach [ek, ee] X.env = [(false, eval ek X.env), (false, eval ee X.env)]) (hst2 : starEach [ee] X.env = [(false, eval ee X.env)])
    (hfew : ((backTo cpos (starEach [ek, ee] X.env)).all (fun x => !x.1) && (backToKw cpos (keywordEach [] X.env)).all (fun x => x.1.isSome) && decide ([ek, ee].length + ([] : List Keyword).length + (if ([] : List Keyword).isEmpty then 0 else 1) < 30)) = true) :
    JS X I E W0 H0 fr OL O (some O) (fun ρ S => evS sg cf (.ins i k e) ρ S) (.Expr (.Call (.Attribute (.Name x p) "insert" apos) [ek, ee] [] cpos) pos) := by
  refine PS.imp (ps_expr (pe_bm PySem.F.plainAttrs_list PySem.F.slot_list_insert PySem.F.type_list_insert mt_insert (pe_var hN hv hd hcd) (ja_consS hk (ja_consS he ja_nilS hst2) (by rw [hst, hst2])) rfl hfew hline (by rw [hst, hst2]) (by rw [hst2]; rfl)) rfl) fun D σ H ⟨W, ρ, S, sr, q⟩ => ?_
  simp only [evS] at q
  cases e0 : lstE ρ i with
  | none => rw [e0] at q; exact q.elim
  | some l =>
    rw [e0] at q
    obtain ⟨hp, a, xs, hs, hH, rx⟩ := own_at sr.sr hi e0
    refine ⟨.ref a, hs, .inl ⟨rfl, xs, .of hH⟩, W, ρ, S, sr.sr, ?_⟩
    show At I X.K E (kSs I X.K) W H (evEs sg cf ρ [k, e] S) _
    simp only [evEs]
    cases e2 : evE sg cf ρ k S with
    | bad =>
      rw [e2] at q
      exact q
    | exc y S1 =>
      rw [e2] at q
      exact fun W' H' cls d n x => q W' H' cls d (sr.n0 n) x
    | ok j S1 =>
      rw [e2] at q
      simp only [Res.on_ok] at q
      simp only [Res.bind_ok]
      cases e3 : evE sg cf ρ e S1 with
      | bad =>
        rw [e3] at q
        exact q
      | exc y S2 =>
        rw [e3] at q
        exact fun W' H' cls d n x => q W' H' cls d (sr.n0 n) x
      | ok v S2 =>
        rw [e3] at q
        simp only [Res.on_ok] at q
        simp only [Res.bind_ok]
        intro W1 H1 vs n1 k1
        obtain ⟨z, ws, rfl, rz, k1⟩ := (show ∃ u us, vs = u :: us ∧ Rp I X.K W1 H1 j u ∧ Rps I X.K W1 H1 [v] us from k1)
        obtain ⟨y, rfl, ry⟩ := rps_one k1
        have sr1 := sr.nxt n1
        obtain ⟨_, a', xs', hs', hH', rx'⟩ := own_at sr1.sr hi e0
        rw [hs] at hs'
        cases hs'
        cases j <;> try (exact q.elim)
        rename_i j
        cases rz
        simp only at q
        by_cases hl : 0 ≤ j ∧ j < 2 ^ 62 ∧ l.length < lim
        · rw [if_pos hl] at q
          refine ⟨a, xs', j, y, rfl, rfl, hH', by rw [← RepVs.length rx', sizeLine_lim]; exact hl.2.2, hl.1, by have := hl.2.1; omega, ?_⟩
          have m := sr1.mut (l' := l.take j.toNat ++ [v] ++ l.drop j.toNat) (xs' := xs'.take j.toNat ++ [y] ++ xs'.drop j.toNat) hi hp hs hH' (RepVs.append (RepVs.append (RepVs.take _ rx') ⟨y, [], rfl, ry, rfl⟩) (RepVs.drop _ rx'))
          exact q _ rfl W1 _ σ m.1 ((n1.nr sr.sr.w).trans m.2)
        · rw [if_neg hl] at q
          exact q.elim
theorem sw_subs {a b c d ea eb : Expr} {p1 p2 tp vp : Pos} {kt kv : Nat} {env : PySem.Env} : swappedStores [.Tuple [.Subscript a b p1, .Subscript c d p2] kt tp] (.Tuple [ea, eb] kv vp) env = pure none := by
  unfold swappedStores
  simp only [pure_bind]
  split
  · rfl
  · split
    · rfl
    · rfl
theorem swaps2 {a b c d : Expr} {p1 p2 tp vp : Pos} {kt kv n : Nat} {env : PySem.Env} : swapsWithSole [.Tuple [.Subscript a b p1, .Subscript c d p2] kt tp] (.Tuple [] kv vp) n env = pure false := by rfl
/-- x[k1], x[k2] = e1, e2, x one's own -/
theorem js_set2 {i : Nat} {x : Str} {k1 k2 e1 e2 : IE} {ek1 ek2 ee1 ee2 : Expr} {p1 p2 sp1 sp2 tp vp pos : Pos} {kt kv : Nat} (hc : X.calm = true) (hi : i ∈ O) (hN : X.N[i]? = some x) (hv : Vis X.env.scope x) (hd : (x == ("__debug__" : Str)) = false) (hcd : (x == ("__classdict__" : Str)) = false)
    (hs1 : ∀ l u p, ek1 ≠ .Slice l u none p) (hs2 : ∀ l u p, ek2 ≠ .Slice l u none p) (he : JE X I (fun _ => E) O (kF I X.K) (fun ρ S => evE sg cf ρ (.tup [e1, e2]) S) (.Tuple [ee1, ee2] kv vp))
    (hk1 : JE X I (fun _ => E) O (kB I X.K) (fun ρ S => evE sg cf ρ k1 S) ek1) (hk2 : JE X I (fun _ => E) O (kB I X.K) (fun ρ S => evE sg cf ρ k2 S) ek2)
    (hw : swappedStores [.Tuple [.Subscript (.Name x p1) ek1 sp1, .Subscript (.Name x p2) ek2 sp2] kt tp] (.Tuple [ee1, ee2] kv vp) X.env = pure none) :
    JS X I E W0 H0 fr OL O (some O) (fun ρ S => evS sg cf (.set2 i k1 k2 e1 e2) ρ S) (.Assign [.Tuple [.Subscript (.Name x p1) ek1 sp1, .Subscript (.Name x p2) ek2 sp2] kt tp] (.Tuple [ee1, ee2] kv vp) pos) := by
  refine PS.imp (ps_asg he (pg_tup hc (pgs_cons (pg_sub (pe_var hN hv hd hcd) hk1 set_list (fun v => sub_side hs1 X.env v)) (pgs_cons (pg_sub (pe_var hN hv hd hcd) hk2 set_list (fun v => sub_side hs2 X.env v)) pgs_nil))) rfl hw rfl) fun D σ H ⟨W, ρ, S, sr, q⟩ => ?_
  simp only [evS] at q
  cases e0 : lstE ρ i with
  | none => rw [e0] at q; exact q.elim
  | some l =>
    rw [e0] at q
    refine ⟨W, ρ, S, sr.sr, q.seq sr fun v S1 W1 H1 y f1 n1 g1 q1 => ?_⟩
    have two : ∃ v1 v2, v = .tup [v1, v2] := by
      cases v with
      | tup vs => cases vs with
        | nil => exact q1.elim
        | cons v1 vs => cases vs with
          | nil => exact q1.elim
          | cons v2 vs => cases vs with
            | nil => exact ⟨v1, v2, rfl⟩
            | cons _ _ => exact q1.elim
      | _ => exact q1.elim
    obtain ⟨v1, v2, rfl⟩ := two
    · obtain ⟨t, xt, rfl, ht, rt⟩ := (show ∃ a xs, y = .ref a ∧ SqT X.K H1 a xs ∧ Rps I X.K W1 H1 [v1, v2] xs from g1)
      obtain ⟨y1, us, rfl, ry1, rt⟩ := (show ∃ u us, xt = u :: us ∧ Rp I X.K W1 H1 v1 u ∧ Rps I X.K W1 H1 [v2] us from rt)
      obtain ⟨y2, rfl, ry2⟩ := rps_one rt
      have sr1 := sr.nxt n1
      obtain ⟨hp, a, xs, hs, hH, rx⟩ := own_at sr1.sr hi e0
      refine ⟨t, _, rfl, ht, rfl, y1, _, rfl, .ref a, hs, W1, ρ, S1, sr1.sr, q1.seq sr1 fun j S2 W2 H2 z f2 n2 g2 q2 => ?_⟩
      cases j <;> try (exact q2.elim)
      rename_i j
      cases g2
      cases e3 : Pi.ixN l.length j with
      | none => simp only [e3] at q2; exact q2.elim
      | some n =>
        simp only [e3] at q2
        have sr2 := sr1.nxt n2
        obtain ⟨_, a', xs', hs', hH', rx'⟩ := own_at sr2.sr hi e0
        rw [hs] at hs'
        cases hs'
        obtain ⟨h1, h2⟩ := set_rep rx' (Rp.up n2.le n2.kp n1.w ry1) e3
        have m := sr2.mut hi hp hs hH' h2
        refine ⟨a, xs', j, n, rfl, rfl, hH', h1, ?_⟩
        have ry2' := Rp.up n2.le n2.kp n1.w ry2
        have q3 := q2.shift m.2
        have sr3 := m.1
        have hi3 : i < ρ.length := (List.getElem?_eq_some_iff.mp hp).1
        have hp3 : (setE ρ i (.lst (l.set n v1)))[i]? = some (some (.lst (l.set n v1))) := by
          unfold setE
          exact List.getElem?_set_self hi3
        have ry3 : Rp I X.K W2 (upd H2 a (.lst (xs'.set n y1))) v2 y2 := RepV.mono m.2.kp (fun _ z => z) (fun _ _ z => z) _ _ ry2'
        refine ⟨y2, [], rfl, .ref a, hs, W2, setE ρ i (.lst (l.set n v1)), S2, sr3.sr, q3.seq sr3 fun j2 S3 W3 H3 z2 f3 n3 g3 q4 => ?_⟩
        cases j2 <;> try (exact q4.elim)
        rename_i j2
        cases g3
        cases e4 : Pi.ixN l.length j2 with
        | none => simp only [e4] at q4; exact q4.elim
        | some n' =>
          simp only [e4] at q4
          have sr4 := sr3.nxt n3
          obtain ⟨l1, a1, k1', k2', k3', k4', xs4, k5', k6'⟩ := sr4.sr.e.ow i _ hp3 hi
          cases k1'
          rw [hs] at k2'
          cases k2'
          obtain ⟨h3, h4⟩ := set_rep k6' (Rp.up n3.le n3.kp sr3.sr.w ry3) (by rw [List.length_set]; exact e4)
          have m4 := sr4.mut hi hp3 hs k5' h4
          exact ⟨a, xs4, j2, n', rfl, rfl, k5', h3, rfl, q4 _ rfl W3 _ σ m4.1 m4.2⟩
end
/-! ### upper, reversed lists, lists of ranges -/
section
variable {X : Cx} {I : XI} {E : L2.St → XK} {O : List Nat} {sg : Sig} {cf : String → List Val → Store → Res Val}
theorem j_sm0 {o : IE} {x : Str} {p apos pos : Pos} (ho : JE X I E O (kB I X.K) (fun ρ S => evE sg cf ρ o S) (.Name x p)) (hline : (apos.endLine == pos.line) = true) :
    JE X I E O (kF I X.K) (fun ρ S => evE sg cf ρ (.sm0 o) S) (.Call (.Attribute (.Name x p) "upper" apos) [] [] pos) := by
  refine PE.imp (pe_upper ho rfl hline) fun σ H Q ⟨W, ρ, S, sr, q⟩ => ⟨W, ρ, S, sr, ?_⟩
  simp only [evE] at q
  refine q.seq (kF_anti _ _) fun v S1 W1 H1 x e1 n1 k1 q1 => ?_
  cases v with
  | str a =>
    obtain ⟨rfl, h1, h2⟩ := k1
    simp only at q1
    by_cases c : a.length ≤ 5592405 ∧ okS (Txt.upper a) = true
    · rw [if_pos c] at q1
      have c2 := c.2
      unfold okS at c2
      rw [Bool.and_eq_true] at c2
      exact ⟨⟨a, rfl⟩, a, rfl, rfl, c.1, q1.done.imm n1.w n1.s ⟨rfl, of_decide_eq_true c2.1, c2.2⟩⟩
    · rw [if_neg c] at q1
      exact q1.elim
  | _ => exact q1.elim
theorem reps_rev {W : Wd} {H : Hp} {K : PySem.W.Frag} : ∀ {l : List Val} {xs : List V}, Rps I K W H l xs → Rps I K W H l.reverse xs.reverse
  | [], xs, h => by
    have e : xs = [] := h
    rw [e]
    exact (rfl : ([] : List V) = [])
  | v :: r, xs, h => by
    obtain ⟨u, us, rfl, h1, h2⟩ := h
    rw [List.reverse_cons, List.reverse_cons]
    exact RepVs.append (reps_rev h2) ⟨u, [], rfl, h1, rfl⟩
theorem j_rev {a : IE} {ea : Expr} {k : Nat} {p1 p2 p3 pos : Pos} (ha : JE X I E O (kB I X.K) (fun ρ S => evE sg cf ρ a S) ea) :
    JE X I E O (kF I X.K) (fun ρ S => evE sg cf ρ (.rev a) S) (.Subscript ea (.Slice none none (some (.UnaryOp .USub (.Constant (.int 1) k p1) p2)) p3) pos) := by
  refine PE.imp (pe_revL ha) fun σ H Q ⟨W, ρ, S, sr, q⟩ => ⟨W, ρ, S, sr, ?_⟩
  simp only [evE] at q
  refine q.seq (kF_anti _ _) fun v S1 W1 H1 x e1 n1 k1 q1 => ?_
  cases v with
  | lst l =>
    obtain ⟨b, xs, rfl, h1, h2⟩ := k1
    exact ⟨b, xs, rfl, h1.sq, fun p hp => q1.done.newL n1.w n1.s (reps_rev h2) p hp⟩
  | _ => exact q1.elim
theorem rgV_reps {W : Wd} {H : Hp} {K : PySem.W.Frag} : ∀ (n : Nat) (a : Int), Rps I K W H (rangeL a n) ((List.range n).map fun i => V.int (a + (i : Nat)))
  | 0, _ => (rfl : ([] : List V) = [])
  | n + 1, a => by
    have ih := rgV_reps (W := W) (H := H) (K := K) n (a + 1)
    rw [List.range_succ_eq_map, List.map_cons, List.map_map]
    refine ⟨.int (a + ((0 : Nat) : Int)), _, rfl, ?_, ?_⟩
    · show V.int (a + ((0 : Nat) : Int)) = V.int a
      congr 1
      omega
    · have e : ((fun i : Nat => V.int (a + (i : Nat))) ∘ Nat.succ) = fun i : Nat => V.int (a + 1 + (i : Nat)) := by
        funext i
        show V.int (a + ((i + 1 : Nat) : Int)) = _
        congr 1
        omega
      rw [e]
      exact ih
theorem two_bind {ρ : Env} {a b : IE} {S : Store} {α : Type} {f : List Val → Store → Res α} : (evEs sg cf ρ [a, b] S).bind f = (evE sg cf ρ a S).bind fun v S1 => (evE sg cf ρ b S1).bind fun w S2 => f [v, w] S2 := by
  simp only [evEs]
  cases evE sg cf ρ a S with
  | ok v S1 =>
    simp only [Res.bind_ok]
    cases evE sg cf ρ b S1 <;> rfl
  | exc y S1 => rfl
  | bad => rfl
theorem j_lrg1 {a : IE} {ea : Expr} {p p2 pos pos2 : Pos} (hc : X.calm = true) (hgl : Gl X "list") (hml : X.mg "list" = none) (hg : Gl X "range") (hm : X.mg "range" = none) (ha : JE X I E O (kB I X.K) (fun ρ S => evE sg cf ρ a S) ea) (hst : starEach [ea] X.env = [(false, eval ea X.env)]) :
    JE X I E O (kF I X.K) (fun ρ S => evE sg cf ρ (.lrg [a]) S) (.Call (.Name "list" p) [.Call (.Name "range" p2) [ea] [] pos2] [] pos) := by
  refine PE.imp (pe_listRg hc hgl hml (prg_1 hg hm ha hst) rfl) fun σ H Q ⟨W, ρ, S, sr, q⟩ => ⟨W, ρ, S, sr, ?_⟩
  simp only [evE] at q
  have e1 : evEs sg cf ρ [a] S = (evE sg cf ρ a S).bind fun v S1 => .ok [v] S1 := evEs_one
  rw [e1, one_bind] at q
  refine q.seq (kF_anti _ _) fun v S1 W1 H1 x e2 n1 k1 q1 => ?_
  obtain ⟨z, ez, q2⟩ := q1.of
  cases v with
  | int n =>
    cases k1
    have ez : (if -(2 ^ 62) ≤ n ∧ n < 2 ^ 62 ∧ n ≤ lim then some (Val.lst (rangeL 0 n.toNat)) else none) = some z := ez
    split at ez
    · rename_i c
      cases ez
      refine ⟨n, rfl, ⟨by omega, by omega, c.1, c.2.1, ?_⟩, fun p hp => ?_⟩
      · have := c.2.2
        have : (lim : Int) = 16777216 := rfl
        omega
      · have r := rgV_reps (I := I) (W := W1) (H := H1) (K := X.K) n.toNat 0
        have e3 : rgV 0 n = (List.range n.toNat).map fun i => V.int (0 + (i : Nat)) := by
          unfold rgV
          rw [Int.sub_zero]
        rw [e3]
        exact q2.done.newL n1.w n1.s r p hp
    · cases ez
  | _ => cases ez
theorem j_lrg2 {a b : IE} {ea eb : Expr} {p p2 pos pos2 : Pos} (hc : X.calm = true) (hgl : Gl X "list") (hml : X.mg "list" = none) (hg : Gl X "range") (hm : X.mg "range" = none) (ha : JE X I E O (kB I X.K) (fun ρ S => evE sg cf ρ a S) ea)
    (hb : JE X I E O (kB I X.K) (fun ρ S => evE sg cf ρ b S) eb) (hsa : starEach [ea, eb] X.env = (false, eval ea X.env) :: starEach [eb] X.env) (hsb : starEach [eb] X.env = [(false, eval eb X.env)]) :
    JE X I E O (kF I X.K) (fun ρ S => evE sg cf ρ (.lrg [a, b]) S) (.Call (.Name "list" p) [.Call (.Name "range" p2) [ea, eb] [] pos2] [] pos) := by
  refine PE.imp (pe_listRg hc hgl hml (prg_2 hg hm ha hb hsa hsb (by rw [hsb]; rfl)) rfl) fun σ H Q ⟨W, ρ, S, sr, q⟩ => ⟨W, ρ, S, sr, ?_⟩
  simp only [evE] at q
  rw [two_bind] at q
  refine q.seq (kF_anti _ _) fun v S1 W1 H1 x e2 n1 k1 q1 => ⟨W1, ρ, S1, sr.nxt n1, ?_⟩
  refine q1.seq (kF_anti _ _) fun u S2 W2 H2 y e3 n2 k2 q2 => ?_
  obtain ⟨z, ez, q3⟩ := q2.of
  cases v with
  | int i =>
    cases u with
    | int j =>
      cases k1
      cases k2
      have ez : (if -(2 ^ 62) ≤ i ∧ i < 2 ^ 62 ∧ -(2 ^ 62) ≤ j ∧ j < 2 ^ 62 ∧ j - i ≤ lim then some (Val.lst (rangeL i (j - i).toNat)) else none) = some z := ez
      split at ez
      · rename_i c
        cases ez
        refine ⟨i, j, rfl, rfl, ⟨c.1, c.2.1, c.2.2.1, c.2.2.2.1, ?_⟩, fun p hp => ?_⟩
        · have := c.2.2.2.2
          have : (lim : Int) = 16777216 := rfl
          omega
        · exact q3.done.newL n2.w n2.s (rgV_reps (I := I) (W := W2) (H := H2) (K := X.K) (j - i).toNat i) p hp
      · cases ez
    | _ => cases ez
  | _ => cases ez
end
end Pi

end
section
set_option linter.all false
set_option maxRecDepth 100000
/-! PiM: does a term stand for a piece of the text? -/
namespace Pi
open PySem PySem.Spec PyProof.Rows L2
mutual
def sameV : Val → Val → Bool
  | .non, .non => true
  | .bl a, .bl b => a == b
  | .int a, .int b => decide (a = b)
  | .str a, .str b => decide (a = b)
  | .tup a, .tup b => sameVs a b
  | .lst a, .lst b => sameVs a b
  | _, _ => false
def sameVs : List Val → List Val → Bool
  | [], [] => true
  | a :: r, b :: s => sameV a b && sameVs r s
  | _, _ => false
end
mutual
theorem sameV_eq : ∀ {a b : Val}, sameV a b = true → a = b
  | .non, b, h => by cases b <;> first | rfl | (cases h; done)
  | .bl x, b, h => by
    cases b <;> try (cases h; done)
    rename_i y
    have h : (x == y) = true := h
    rw [eq_of_beq h]
  | .int x, b, h => by
    cases b <;> try (cases h; done)
    rename_i y
    rw [of_decide_eq_true (show decide (x = y) = true from h)]
  | .str x, b, h => by
    cases b <;> try (cases h; done)
    rename_i y
    rw [of_decide_eq_true (show decide (x = y) = true from h)]
  | .tup x, b, h => by
    cases b <;> try (cases h; done)
    rename_i y
    rw [sameVs_eq (show sameVs x y = true from h)]
  | .lst x, b, h => by
    cases b <;> try (cases h; done)
    rename_i y
    rw [sameVs_eq (show sameVs x y = true from h)]
  | .loc n, b, h => by cases b <;> cases h
  | .exn c x, b, h => by cases b <;> cases h
theorem sameVs_eq : ∀ {a b : List Val}, sameVs a b = true → a = b
  | [], b, h => by cases b <;> first | rfl | (cases h; done)
  | x :: r, b, h => by
    cases b with
    | nil => cases h
    | cons y s =>
      have h : (sameV x y && sameVs r s) = true := h
      rw [Bool.and_eq_true] at h
      rw [sameV_eq h.1, sameVs_eq h.2]
end
def sameKv : List (Str × Val) → List (Str × Val) → Bool
  | [], [] => true
  | a :: r, b :: s => decide (a.1 = b.1) && sameV a.2 b.2 && sameKv r s
  | _, _ => false
theorem sameKv_eq : ∀ {a b : List (Str × Val)}, sameKv a b = true → a = b
  | [], b, h => by cases b <;> first | rfl | (cases h; done)
  | (x1, x2) :: r, b, h => by
    cases b with
    | nil => cases h
    | cons y s =>
      obtain ⟨y1, y2⟩ := y
      have h : (decide (x1 = y1) && sameV x2 y2 && sameKv r s) = true := h
      rw [Bool.and_eq_true, Bool.and_eq_true] at h
      rw [of_decide_eq_true h.1.1, sameV_eq h.1.2, sameKv_eq h.2]

inductive K3 where | f | s | b
def kdOf (I : XI) (K : PySem.W.Frag) : K3 → Kd Val V
  | .f => kF I K
  | .s => kS I K
  | .b => kB I K
def le3 : K3 → K3 → Bool
  | .f, _ => true
  | .s, .f => false
  | .s, _ => true
  | .b, .b => true
  | .b, _ => false
/-- what stands at the top: the defs (how many parameters, whether what they give is fresh), the constants, the tables -/
structure Gt where
  fns : List (String × (Nat × Bool))
  gvs : List (String × Val)
  dxs : List (String × List (Str × Val))
  fks : List (String × Nat × List Str × List Src) := []
  xcs : List (String × String × String) := []
  xns : List String := []
def Gt.sg (g : Gt) : Sig := ⟨fun c => (g.xcs.lookup c).map (·.1), fun c => (g.xcs.lookup c).map (·.2)⟩
/-- a block -/
structure Ct where
  N : List Str
  sc : Scope
  fn : Str → Bool
def glC (c : Ct) (x : Str) : Bool := decide (c.sc.names.lookup x = some .globalImplicit) && !(x == ("__debug__" : Str))
def nmC (x : Str) : Bool := !(x == ("__debug__" : Str)) && !(x == ("__classdict__" : Str))
def visC (c : Ct) (x : Str) : Bool := decide (c.sc.names.lookup x = some .local) || decide (c.sc.names.lookup x = some .cell) || decide (c.sc.names.lookup x = some .free)
def locC (c : Ct) (x : Str) : Bool := decide (c.sc.names.lookup x = some .local) || (decide (c.sc.names.lookup x = some .cell) && c.fn x)
def varC (c : Ct) (i : Nat) (x : Str) : Bool := nmC x && visC c x && decide (c.N[i]? = some x)
def tgtC (c : Ct) (i : Nat) (x : Str) : Bool := locC c x && decide (c.N[i]? = some x)
def bltN : List String := ["len", "abs", "int", "bool", "str", "tuple", "list", "all", "any", "sum", "min", "max", "repr", "sorted", "range", "zip", "enumerate", "isinstance"]
/-- a subscript that is a name -/
def noSlC : Expr → Bool
  | .Name _ _ => true
  | _ => false
def bltC (c : Ct) (n : String) (x : Str) : Bool := decide (x = (n : Str)) && bltN.contains n && glC c (n : Str)
def notSet : Expr → Bool
  | .Set .. => false
  | _ => true
def notStar : Expr → Bool
  | .Starred .. => false
  | _ => true
def pIx : Expr → Bool
  | .Slice .. => false
  | _ => true
def isCmp : Expr → Bool
  | .ListComp .. => true
  | .SetComp .. => true
  | .DictComp .. => true
  | _ => false
def opC (o : Bop) (op : Operator) : Bool := decide (bopO o = op)
def copC (o : Cop) (op : CmpOp) : Bool := decide (copO o = op)
def innerC (c : Ct) (scope : Scope) : Ct := { N := c.N, sc := relS scope c.sc, fn := fun x => scope.names.lookup x == some .cell }
def ownOf (c : Ct) (p : Pat) : List (Str × Nat) := p.vars.map fun i => ((c.N[i]?).getD Str.empty, i)
/-- name = [..] lays the list the short way -/
def swT (c : Ct) (x : Str) (px pos : Pos) (scope : Scope) : Bool := decide (c.sc.names.lookup x = some .local) && (px.line == pos.line) && !(scope.names.any fun (n, k) => n == x && (k == .local || k == .cell))
def plainT : Expr → Bool
  | .Compare .. => false
  | .UnaryOp .. => false
  | .BoolOp .. => false
  | .IfExp .. => false
  | _ => true
def tyStr : Expr → Option Str
  | .Name x _ => some x
  | _ => none

def augB : Bop → Bool
  | .add => true
  | .sub => true
  | .mul => true
  | _ => false
def notCallE : Expr → Bool
  | .Call .. => false
  | _ => true
def sameSrc : List Src → List Src → Bool
  | [], [] => true
  | .a i :: r, .a j :: s => decide (i = j) && sameSrc r s
  | .d v :: r, .d w :: s => sameV v w && sameSrc r s
  | _, _ => false
theorem sameSrc_eq : ∀ {a b : List Src}, sameSrc a b = true → a = b
  | [], [], _ => rfl
  | .a i :: r, .a j :: s, h => by
    have h : (decide (i = j) && sameSrc r s) = true := h
    rw [Bool.and_eq_true] at h
    rw [of_decide_eq_true h.1, sameSrc_eq h.2]
  | .d v :: r, .d w :: s, h => by
    have h : (sameV v w && sameSrc r s) = true := h
    rw [Bool.and_eq_true] at h
    rw [sameV_eq h.1, sameSrc_eq h.2]
  | [], .a _ :: _, h => by cases h
  | [], .d _ :: _, h => by cases h
  | .a _ :: _, [], h => by cases h
  | .d _ :: _, [], h => by cases h
  | .a _ :: _, .d _ :: _, h => by cases h
  | .d _ :: _, .a _ :: _, h => by cases h
def kwNames (kws : List Keyword) : List (Option Str) := kws.map (·.arg)
mutual
def chkE : Nat → Gt → Ct → List Nat → K3 → IE → Expr → Bool
  | 0, _, _, _, _, _, _ => false
  | n + 1, g, c, O, k, ie, ae => match ie with
    | .lv i => (match ae with
      | .Name x _ => varC c i x && (if O.contains i then le3 .b k else le3 .s k)
      | _ => false)
    | .cst v => (match ae with
      | .Constant (.int j) _ _ => sameV v (.int j)
      | .Constant (.bool j) _ _ => sameV v (.bl j)
      | .Constant .none _ _ => sameV v .non
      | .Constant (.str y) _ _ => sameV v (.str y) && decide (y.length ≤ lim) && PyData.strOk y
      | _ => false)
    | .gv x v => (match ae with
      | .Name y _ => decide (y = (x : Str)) && glC c y && le3 .s k && g.gvs.any fun q => q.1 == x && sameV q.2 v
      | _ => false)
    | .bin o a b => (match ae with
      | .BinOp ea op eb _ => opC o op && chkE n g c O .b a ea && chkE n g c O .b b eb
      | _ => false)
    | .neg a => (match ae with
      | .UnaryOp .USub ea _ => chkE n g c O .b a ea
      | _ => false)
    | .cmp o a b => (match ae with
      | .Compare ea [op] [eb] _ => copC o op && notSet eb && chkE n g c O .b a ea && chkE n g c O .b b eb
      | _ => false)
    | .chain o1 o2 a b t => (match ae with
      | .Compare ea [op1, op2] [eb, ec] _ => copC o1 op1 && copC o2 op2 && notSet ec && chkE n g c O .b a ea && chkE n g c O .b b eb && chkE n g c O .b t ec
      | _ => false)
    | .isx e nm => (match ae with
      | .Call (.Name x _) [ee, .Name y _] [] _ => bltC c "isinstance" x && decide (y = (nm : Str)) && glC c y && g.xns.contains nm && notStar ee && chkE n g c O .b e ee
      | _ => false)
    | .dsub d q => (match ae with
      | .Subscript (.Name x p) eq _ => le3 .s k && noSlC eq && chkE n g c O .b d (.Name x p) && chkE n g c O .b q eq
      | _ => false)
    | .dctE ks es => (match ae with
      | .Dict kk vv _ => le3 .s k && !kk.isEmpty && decide (kk.length ≤ 15) && chkD n g c O ks es kk vv
      | _ => false)
    | .dget d q xs => (match ae, xs with
      | .Call (.Attribute (.Name x p) at_ apos) [eq] [] pos, [] => decide (at_ = ("get" : Str)) && le3 .s k && (apos.endLine == pos.line) && notStar eq && chkE n g c O .b d (.Name x p) && chkE n g c O .b q eq
      | .Call (.Attribute (.Dict kk vv p) at_ apos) [eq] [] pos, [] => decide (at_ = ("get" : Str)) && le3 .s k && (apos.endLine == pos.line) && notStar eq && chkE n g c O .b d (.Dict kk vv p) && chkE n g c O .b q eq
      | .Call (.Attribute (.Name x p) at_ apos) [eq, ex] [] pos, [y] => decide (at_ = ("get" : Str)) && le3 .s k && (apos.endLine == pos.line) && notStar eq && notStar ex && chkE n g c O .b d (.Name x p) && chkE n g c O .b q eq && chkE n g c O .s y ex
      | _, _ => false)
    | .sm1 m o e => (match ae with
      | .Call (.Attribute (.Name x p) at_ apos) [ee] [] pos => decide (at_ = ((smN m : String) : Str)) && (apos.endLine == pos.line) && notStar ee && chkE n g c O .b o (.Name x p) && chkE n g c O .b e ee
      | _ => false)
    | .mkx cn e => (match ae with
      | .Call (.Name x _) [ee] [] _ => decide (x = (cn : Str)) && glC c x && (g.xcs.lookup cn).isSome && notStar ee && chkE n g c O .s e ee
      | .Call (.Name x _) [] [⟨some nm, ee, _⟩] _ => decide (x = (cn : Str)) && glC c x && (match g.xcs.lookup cn with
        | some (_, f) => decide (nm = (f : Str)) && chkE n g c O .s e ee
        | none => false)
      | _ => false)
    | .fldx e f => (match ae with
      | .Attribute ee at_ _ => decide (at_ = (f : Str)) && le3 .s k && notCallE ee && chkE n g c O .b e ee
      | _ => false)
    | .callB f es np src => (match ae with
      | .Call (.Name x _) ees kws _ => decide (x = (f : Str)) && glC c x && (match g.fns.lookup f with
        | some (_, fr) => le3 (if fr then .f else .s) k && (g.fks.any fun q => decide (q.1 = f) && decide (q.2.1 = np) && decide (kwNames kws = q.2.2.1.map some) && sameSrc q.2.2.2 src) && decide (np ≤ es.length) && decide (np = ees.length) &&
            chkA n g c O false (es.take np) ees && chkK n g c O (es.drop np) kws
        | none => false)
      | _ => false)
    | .not a => (match ae with
      | .UnaryOp .Not ea _ => chkE n g c O .b a ea
      | _ => false)
    | .and es => (match ae with
      | .BoolOp .And ees _ => chkAnd n g c O k es ees
      | _ => false)
    | .or es => (match ae with
      | .BoolOp .Or ees _ => chkAnd n g c O k es ees
      | _ => false)
    | .ite t a b => (match ae with
      | .IfExp et ea eb _ => chkT n g c O t et && chkE n g c O k a ea && chkE n g c O k b eb
      | _ => false)
    | .tup es => (match ae with
      | .Tuple ees _ _ => decide (es.length ≤ lim) && chkA n g c O false es ees
      | _ => false)
    | .lst es => (match ae with
      | .List ees _ => decide (es.length ≤ lim) && chkA n g c O false es ees
      | _ => false)
    | .box es => (match ae with
      | .List ees _ => decide (es.length ≤ lim) && chkA n g c O false es ees
      | _ => false)
    | .ix a i => (match ae with
      | .Subscript ea ei _ => le3 .s k && pIx ei && chkE n g c O .b a ea && chkE n g c O .b i ei
      | _ => false)
    | .sl a lo hi => (match ae with
      | .Subscript ea (.Slice elo ehi none _) _ => chkE n g c O .b a ea && chkO n g c O lo elo && chkO n g c O hi ehi
      | _ => false)
    | .call f es => (match ae with
      | .Call (.Name x _) ees [] _ => decide (x = (f : Str)) && glC c x && (match g.fns.lookup f with
        | some (m, fr) => decide (m = es.length) && le3 (if fr then .f else .s) k && chkA n g c O false es ees
        | none => false)
      | _ => false)
    | .bi b es => (match ae with
      | .Call (.Name x _) (ea :: er) [] _ => (match biN b with
        | some (_, m) => bltC c m x && chkA n g c O true es (ea :: er)
        | none => false)
      | .Call (.Name x _) [ea] [⟨some nm, ed, _⟩] _ => (match bkN b with
        | some (m, kn) => (match es with
          | [a, d] => bltC c m x && decide (nm = (kn : Str)) && notStar ea && chkE n g c O .b a ea && chkE n g c O .s d ed
          | _ => false)
        | none => false)
      | .Call (.Attribute (.Constant (.str y) _ _) at_ apos) [ea] [] pos => (match b, es with
        | .join, [v, a] => (match v with
          | .cst w => sameV w (.str y) && decide (at_ = ("join" : Str)) && decide (y.length ≤ lim) && PyData.strOk y && (apos.endLine == pos.line) && notStar ea && chkE n g c O .b a ea
          | _ => false)
        | _, _ => false)
      | _ => false)
    | .isa e ts => (match ae with
      | .Call (.Name x _) [ee, .Name y _] [] _ => (match ts with
        | [t] => (match tyN t with
          | some m => bltC c "isinstance" x && bltC c m y && notStar ee && chkE n g c O .b e ee
          | none => false)
        | _ => false)
      | .Call (.Name x _) [ee, .Tuple tys _ _] [] _ => (match ts with
        | [t, t2] => (match tyN t, tyN t2 with
          | some m, some m2 => bltC c "isinstance" x && decide (tys.map tyStr = [some (m : Str), some (m2 : Str)]) && bltN.contains m && bltN.contains m2 && glC c (m : Str) && glC c (m2 : Str) && notStar ee && chkE n g c O .b e ee
          | _, _ => false)
        | _ => false)
      | _ => false)
    | .comp k its p cs e => (match ae with
      | .ListComp elt [⟨tg, iter, ifs, 0⟩] scope _ => chkC n g c O k its p cs e elt tg iter ifs scope
      | _ => false)
    | .sm0 o => (match ae with
      | .Call (.Attribute (.Name x p) at_ apos) [] [] pos => decide (at_ = ("upper" : Str)) && (apos.endLine == pos.line) && chkE n g c O .b o (.Name x p)
      | _ => false)
    | .rev a => (match ae with
      | .Subscript ea (.Slice none none (some (.UnaryOp .USub (.Constant (.int 1) _ _) _)) _) _ => chkE n g c O .b a ea
      | _ => false)
    | .lrg es => (match ae, es with
      | .Call (.Name x _) [.Call (.Name y _) [ea] [] _] [] _, [a] => bltC c "list" x && bltC c "range" y && notStar ea && chkE n g c O .b a ea
      | .Call (.Name x _) [.Call (.Name y _) [ea, eb] [] _] [] _, [a, b] => bltC c "list" x && bltC c "range" y && notStar ea && notStar eb && chkE n g c O .b a ea && chkE n g c O .b b eb
      | _, _ => false)
    | .dix x kvs a => (match ae with
      | .Subscript (.Name y _) ea _ => decide (y = (x : Str)) && glC c y && le3 .s k && pIx ea && (g.dxs.any fun q => q.1 == x && sameKv q.2 kvs) && chkE n g c O .b a ea
      | _ => false)
    | _ => false
/-- an argument list; true: as it is -/
def chkA : Nat → Gt → Ct → List Nat → Bool → List IE → List Expr → Bool
  | 0, _, _, _, _, _, _ => false
  | n + 1, g, c, O, k, es, ees => match es, ees with
    | [], [] => true
    | a :: r, ea :: er => notStar ea && chkE n g c O (if k then .b else .s) a ea && chkA n g c O k r er
    | _, _ => false
def chkK : Nat → Gt → Ct → List Nat → List IE → List Keyword → Bool
  | 0, _, _, _, _, _ => false
  | n + 1, g, c, O, es, kws => match es, kws with
    | [], [] => true
    | a :: r, kw :: er => chkE n g c O .s a kw.value && chkK n g c O r er
    | _, _ => false
/-- the pairs of a display -/
def chkD : Nat → Gt → Ct → List Nat → List Str → List IE → List (Option Expr) → List Expr → Bool
  | 0, _, _, _, _, _, _, _ => false
  | n + 1, g, c, O, ks, es, kk, vv => match ks, es, kk, vv with
    | [], [], [], [] => true
    | q :: ks, e :: es, some (.Constant (.str y) _ _) :: kk, v :: vv => decide (y = q) && chkE n g c O .s e v && chkD n g c O ks es kk vv
    | _, _, _, _ => false
def chkAnd : Nat → Gt → Ct → List Nat → K3 → List IE → List Expr → Bool
  | 0, _, _, _, _, _, _ => false
  | n + 1, g, c, O, k, es, ees => match es, ees with
    | [a], [ea] => chkE n g c O k a ea
    | a :: b :: r, ea :: eb :: er => chkE n g c O .b a ea && chkAnd n g c O .f (b :: r) (eb :: er)
    | _, _ => false
def chkO : Nat → Gt → Ct → List Nat → List IE → Option Expr → Bool
  | 0, _, _, _, _, _ => false
  | n + 1, g, c, O, es, e => match es, e with
    | [], none => true
    | a :: _, some ea => chkE n g c O .b a ea
    | _, _ => false
/-- as a test -/
def chkT : Nat → Gt → Ct → List Nat → IE → Expr → Bool
  | 0, _, _, _, _, _ => false
  | n + 1, g, c, O, ie, ae => match ae with
    | .Compare ea [op] [eb] _ => (match ie with
      | .cmp o a b => copC o op && notSet eb && chkE n g c O .b a ea && chkE n g c O .b b eb
      | _ => false)
    | .Compare ea [op1, op2] [eb, ec] _ => (match ie with
      | .chain o1 o2 a b t => copC o1 op1 && copC o2 op2 && notSet ec && chkE n g c O .b a ea && chkE n g c O .b b eb && chkE n g c O .b t ec
      | _ => false)
    | .UnaryOp .Not ea _ => (match ie with
      | .not a => chkT n g c O a ea
      | _ => false)
    | .BoolOp op ees _ => (match ie, op with
      | .and es, .And => chkTA n g c O es ees
      | .or es, .Or => chkTA n g c O es ees
      | _, _ => false)
    | _ => plainT ae && chkE n g c O .b ie ae
def chkTA : Nat → Gt → Ct → List Nat → List IE → List Expr → Bool
  | 0, _, _, _, _, _ => false
  | n + 1, g, c, O, es, ees => match es, ees with
    | [a], [ea] => chkT n g c O a ea
    | a :: b :: r, ea :: eb :: er => chkT n g c O a ea && chkTA n g c O (b :: r) (eb :: er)
    | _, _ => false
/-- what is walked -/
def chkI : Nat → Gt → Ct → List Nat → Nat → List IE → Expr → Expr → Bool
  | 0, _, _, _, _, _, _, _ => false
  | n + 1, g, c, O, k, its, tg, iter => notSet iter && (match k with
    | 0 => (match its with
      | [a] => chkE n g c O .s a iter
      | _ => false)
    | 1 => (match iter with
      | .Call (.Name x _) [ea] [] _ => bltC c "range" x && chkA n g c O false its [ea]
      | _ => false)
    | 2 => (match iter with
      | .Call (.Name x _) [ea, eb] [] _ => bltC c "range" x && chkA n g c O false its [ea, eb]
      | _ => false)
    | 4 => (match tg with
      | .Tuple .. => (match iter with
        | .Call (.Name x _) [ea, eb] [] _ => bltC c "zip" x && chkA n g c O false its [ea, eb]
        | _ => false)
      | _ => false)
    | 5 => (match tg with
      | .Tuple .. => (match iter with
        | .Call (.Name x _) [ea] [] _ => bltC c "enumerate" x && chkA n g c O false its [ea]
        | _ => false)
      | _ => false)
    | _ => false)
/-- targets -/
def chkP : Nat → Ct → Pat → Expr → Bool
  | 0, _, _, _ => false
  | n + 1, c, p, ae => match p with
    | .v i => (match ae with
      | .Name x _ => tgtC c i x
      | _ => false)
    | .tup ps => (match ae with
      | .Tuple es _ _ => chkPs n c ps none es
      | _ => false)
    | .star ps i => (match ae with
      | .Tuple es _ _ => chkPs n c ps (some i) es
      | _ => false)
def chkPs : Nat → Ct → List Pat → Option Nat → List Expr → Bool
  | 0, _, _, _, _ => false
  | n + 1, c, ps, o, es => match ps, es with
    | [], [] => (match o with
      | none => true
      | some _ => false)
    | [], [.Starred (.Name x _) _] => (match o with
      | some i => tgtC c i x
      | none => false)
    | p :: ps, e :: es => notStar e && chkP n c p e && chkPs n c ps o es
    | _, _ => false
def chkC : Nat → Gt → Ct → List Nat → Nat → List IE → Pat → List IE → IE → Expr → Expr → Expr → List Expr → Scope → Bool
  | 0, _, _, _, _, _, _, _, _, _, _, _, _, _ => false
  | n + 1, g, c, O, k, its, p, cs, e, elt, tg, iter, ifs, scope => blkC c.N c.sc scope (ownOf c p) && chkI n g c O k its tg iter && chkP n (innerC c scope) p tg && (match cs, ifs with
    | [], [] => true
    | [t], [et] => chkT n g (innerC c scope) (less O p.vars) t et
    | _, _ => false) && chkE n g (innerC c scope) (less O p.vars) .s e elt
end

/-! ### statements -/
def interO (a b : List Nat) : List Nat := a.filter b.contains
def subO (a b : List Nat) : Bool := a.all b.contains
abbrev RO := Option (Option (List Nat))
def joinO : RO → RO → RO
  | some none, r => r
  | r, some none => r
  | some (some a), some (some b) => some (some (interO a b))
  | _, _ => none
def namesL (c : Ct) (line : Nat) (ts : List Expr) : List Str := ts.filterMap fun
    | .Name id pos => if c.sc.names.lookup id == some .local && pos.line == line then some id else none
    | _ => none
def lineOf (ts : List Expr) : Nat := (ts.head?.map (·.pos.line)).getD 0
/-- no stores in another order -/
def swN (c : Ct) : Expr → Expr → Bool
  | .Tuple ts _ _, .Tuple vs _ _ => !(ts.length == 2 || ts.length == 3) || vs.length != ts.length || (vs.any fun | .Starred .. => true | _ => false) || ((namesL c (lineOf ts) ts).length != ts.length || (namesL c (lineOf ts) ts).eraseDups.length != (namesL c (lineOf ts) ts).length) || vs.all (foldedForSure 8)
  | .Tuple _ _ _, _ => true
  | _, _ => false
/-- stores in another order -/
def swS (c : Ct) (ts vs : List Expr) (xs : List Str) : Bool := (ts.length == 2 || ts.length == 3) && !(vs.length != ts.length) && !(vs.any fun | .Starred .. => true | _ => false) && decide (namesL c (lineOf ts) ts = xs) && !(xs.length != ts.length || xs.eraseDups.length != xs.length) && !vs.all (foldedForSure 8) && !vs.all (constantsAlone 8)
def lcC (c : Ct) (x : Str) (px : Pos) : Expr → Option Bool
  | .ListComp _ _ scope pos => some (swT c x px pos scope)
  | .SetComp .. => none
  | .DictComp .. => none
  | _ => some false
def chkM : Nat → Gt → Ct → List Nat → List (Nat × Bool) → List IE → List Expr → Bool
  | n, g, c, O, (_, m) :: is, e :: es, ee :: ees => notStar ee && chkE n g c O (if m then .f else .s) e ee && chkM n g c O is es ees
  | _, _, _, _, [], [], [] => true
  | _, _, _, _, _, _, _ => false
def namesC (c : Ct) : List (Nat × Bool) → List Expr → Bool
  | [], [] => true
  | (i, _) :: is, .Name x _ :: ts => tgtC c i x && namesC c is ts
  | _, _ => false
/-- what a loop leaves one's own -/
def fixO (f : List Nat → RO) : Nat → List Nat → Option (List Nat)
  | 0, _ => none
  | k + 1, O => match f O with
    | none => none
    | some none => some O
    | some (some r) => if subO O r then some O else fixO f k (interO O r)
mutual
def chkS : Nat → Gt → Ct → Bool → List Nat → List Nat → IS → Stmt → RO
  | 0, _, _, _, _, _, _, _ => none
  | n + 1, g, c, fr, OL, O, s, st => match s with
    | .pass => (match st with
      | .Pass _ => some (some O)
      | _ => none)
    | .brk => (match st with
      | .Break _ => if subO OL O then some none else none
      | _ => none)
    | .cnt => (match st with
      | .Continue _ => if subO OL O then some none else none
      | _ => none)
    | .expr e => (match st with
      | .Expr ee _ => if !isCmp ee && chkE n g c O .b e ee then some (some O) else none
      | _ => none)
    | .ret e => (match st with
      | .Return (some ee) _ => if fr then (if chkE n g c O .f e ee then some none else (match e, ee with
          | .lv i, .Name x _ => if O.contains i && varC c i x then some none else none
          | _, _ => none)) else if chkE n g c O .s e ee then some none else none
      | _ => none)
    | .retN => (match st with
      | .Return none _ => some none
      | _ => none)
    | .asg p e => (match st with
      | .Assign [tg] ee _ => (match p, tg with
        | .v i, .Name x px => if tgtC c i x then (match lcC c x px ee with
          | some false => if chkE n g c O .s e ee then some (some (less O [i])) else none
          | some true => (match e, ee with
            | .comp k its p cs e, .ListComp elt [⟨tg, iter, ifs, 0⟩] scope _ => if chkC n g c O k its p cs e elt tg iter ifs scope then some (some (less O [i])) else none
            | _, _ => none)
          | none => none) else none
        | p, tg => if swN c tg ee && chkP n c p tg && chkE n g c O .s e ee then some (some (less O p.vars)) else none)
      | _ => none)
    | .own i e => (match st with
      | .Assign [.Name x px] ee _ => if tgtC c i x then (match lcC c x px ee with
          | some false => if chkE n g c O .f e ee then some (some (i :: less O [i])) else none
          | some true => (match e, ee with
            | .comp k its p cs e, .ListComp elt [⟨tg, iter, ifs, 0⟩] scope _ => if chkC n g c O k its p cs e elt tg iter ifs scope then some (some (i :: less O [i])) else none
            | _, _ => none)
          | none => none) else none
      | _ => none)
    | .par is es => (match st with
      | .Assign [.Tuple ts kt pt] (.Tuple vs kv pv) _ => if swN c (.Tuple ts kt pt) (.Tuple vs kv pv) then (if namesC c is ts && chkM n g c O is es vs && decide (es.length ≤ lim) && decide (is.length ≤ lim) then some (some (parO O is)) else none) else (match is, ts, vs with
        | [(i, mi), (j, mj)], [.Name x px, .Name y py], [ea, eb] => if tgtC c i x && tgtC c j y && decide (i ≠ j) && decide (c.sc.names.lookup x = some .local) && decide (c.sc.names.lookup y = some .local) && chkM n g c O is es vs && swS c ts vs [x, y] then some (some (parO O is)) else none
        | [(i, mi), (j, mj), (l, ml)], [.Name x px, .Name y py, .Name z pz], [ea, eb, ec] => if tgtC c i x && tgtC c j y && tgtC c l z && decide (i ≠ j) && decide (i ≠ l) && decide (j ≠ l) && decide (c.sc.names.lookup x = some .local) && decide (c.sc.names.lookup y = some .local) && decide (c.sc.names.lookup z = some .local) && chkM n g c O is es vs && swS c ts vs [x, y, z] then some (some (parO O is)) else none
        | _, _, _ => none)
      | _ => none)
    | .setL i k e => (match st with
      | .Assign [.Subscript (.Name x _) ek _] ee _ => if O.contains i && varC c i x && pIx ek && chkE n g c O .s e ee && chkE n g c O .b k ek then some (some O) else none
      | _ => none)
    | .setB b k e => (match st with
      | .Assign [.Subscript eb ek _] ee _ => if pIx ek && chkE n g c O .s e ee && chkE n g c O .s b eb && chkE n g c O .b k ek then some (some O) else none
      | _ => none)
    | .app i e => (match st with
      | .Expr (.Call (.Attribute (.Name x _) at_ apos) [ee] [] cpos) _ => if decide (at_ = ("append" : Str)) && O.contains i && varC c i x && (apos.endLine == cpos.line) && notStar ee && chkE n g c O .s e ee then some (some O) else none
      | _ => none)
    | .ins i k e => (match st with
      | .Expr (.Call (.Attribute (.Name x _) at_ apos) [ek, ee] [] cpos) _ => if decide (at_ = ("insert" : Str)) && O.contains i && varC c i x && (apos.endLine == cpos.line) && notStar ek && notStar ee && chkE n g c O .s k ek && chkE n g c O .s e ee then some (some O) else none
      | _ => none)
    | .set2 i k1 k2 e1 e2 => (match st with
      | .Assign [.Tuple [.Subscript (.Name x _) ek1 _, .Subscript (.Name y _) ek2 _] _ _] (.Tuple [ee1, ee2] kv vp) _ => if decide (x = y) && O.contains i && varC c i x && pIx ek1 && pIx ek2 && chkE n g c O .f (.tup [e1, e2]) (.Tuple [ee1, ee2] kv vp) && chkE n g c O .b k1 ek1 && chkE n g c O .b k2 ek2 then some (some O) else none
      | _ => none)
    | .ite t a b => (match st with
      | .If et ea eb _ => if chkT n g c O t et then joinO (chkSs n g c fr OL O a ea) (chkSs n g c fr OL O b eb) else none
      | _ => none)
    | .forr k its p b => (match st with
      | .For tg iter body [] _ => if chkI n g c O k its tg iter && chkP n c p tg then (fixO (fun O1 => chkSs n g c fr O1 (less O1 p.vars) b body) 4 O).map some else none
      | _ => none)
    | .raise e => (match e with
      | .mkx cn e => (match st with
        | .Raise (some (.Call (.Name x _) [ee] [] _)) none _ => if decide (x = (cn : Str)) && glC c x && (g.xcs.lookup cn).isSome && notStar ee && chkE n g c O .s e ee then some none else none
        | _ => none)
      | _ => none)
    | .tryx i e cn nn j => (match st with
      | .Try [.Assign [.Name xi px] ee ap] [.ExceptHandler (some (.Name y _)) (some ny) [.Assign [.Name z _] (.Name ny2 _) _] _] [] [] _ =>
        if decide (y = (cn : Str)) && glC c y && g.xns.contains cn && tgtC c i xi && (lcC c xi px ee == some false) && tgtC c j z && decide (c.N[nn]? = some ny) && decide (c.sc.names.lookup ny = some .local) && nmC ny && decide (ny2 = ny) && chkE n g c O .s e ee then some (some (less O [i, nn, j])) else none
      | _ => none)
    | .aug i o e => (match st with
      | .AugAssign (.Name x _) op ee _ => if opC o op && tgtC c i x && !O.contains i && augB o && chkE n g c O .b e ee then some (some (less O [i])) else none
      | _ => none)
    | .pop i k => (match st with
      | .Expr (.Call (.Attribute (.Name x _) at_ apos) ees [] cpos) _ => if decide (at_ = ("pop" : Str)) && O.contains i && varC c i x && (apos.endLine == cpos.line) then (match k, ees with
          | [], [] => some (some O)
          | [k], [ek] => if notStar ek && chkE n g c O .b k ek then some (some O) else none
          | _, _ => none) else none
      | _ => none)
    | .popTo j i k => (match st with
      | .Assign [.Name y _] (.Call (.Attribute (.Name x _) at_ apos) ees [] cpos) _ => if decide (at_ = ("pop" : Str)) && decide (i ≠ j) && O.contains i && varC c i x && tgtC c j y && (apos.endLine == cpos.line) then (match k, ees with
          | [], [] => some (some (less O [j]))
          | [k], [ek] => if notStar ek && chkE n g c O .b k ek then some (some (less O [j])) else none
          | _, _ => none) else none
      | _ => none)
    | .whil t b => (match st with
      | .While et body [] _ => (match fixO (fun O1 => chkSs n g c fr O1 O1 b body) 4 O with
        | some O1 => if chkT n g c O1 t et then some (some O1) else none
        | none => none)
      | _ => none)
    | _ => none
def chkSs : Nat → Gt → Ct → Bool → List Nat → List Nat → List IS → List Stmt → RO
  | 0, _, _, _, _, _, _, _ => none
  | n + 1, g, c, fr, OL, O, ss, sts => match ss with
    | [] => (match sts with
      | [] => some (some O)
      | _ => none)
    | .share i :: r => chkSs n g c fr OL (less O [i]) r sts
    | s :: r => (match sts with
      | [] => none
      | st :: rest => (match chkS n g c fr OL O s st with
        | none => none
        | some none => some none
        | some (some O1) => chkSs n g c fr OL O1 r rest))
end
end Pi

end
section
set_option linter.all false
set_option maxRecDepth 100000
/-! PiN: what the check says holds. -/
namespace Pi
open PySem PySem.Spec PyProof.Rows L2
/-- a block that stands as c says -/
structure XOk (g : Gt) (c : Ct) (X : Cx) (I : XI) (sg : Sig) (E : L2.St → XK) (cf : String → List Val → Store → Res Val) : Prop where
  N : X.N = c.N
  sc : X.env.scope = c.sc
  fn : X.fn = c.fn
  nd : X.N.Nodup
  kd : X.env.scope.kind = .function
  calm : X.calm = true
  un : X.A.units + 65 < cLine
  gu : Quiet X.A
  po : PassesOwn (model X.prog X.w) X.A X.env X.xe
  tk : Takes X fun cls d σ H => E σ cls d H
  fns : ∀ f m fr, g.fns.lookup f = some (m, fr) → CanCall X I cf (f : Str) f m fr
  gvs : ∀ q ∈ g.gvs, GvOk I X.K X.mg (q.1 : Str) q.2
  dxs : ∀ q ∈ g.dxs, DxOk X I (q.1 : Str) q.2
  blt : ∀ n ∈ bltN, X.mg (n : Str) = none
  fks : ∀ q ∈ g.fks, ∀ m fr, g.fns.lookup q.1 = some (m, fr) → CanCallK X I cf q.1 q.2.1 q.2.2.1 q.2.2.2 fr
  xh : XHeld X.K I sg
  xm : ∀ c, (g.xcs.lookup c).isSome = true → XAt X I sg c
  xn : ∀ n ∈ g.xns, NAt X.K X.mg I sg n
  xs : ∀ c B f, g.xcs.lookup c = some (B, f) → sg.xf c = some f
theorem XOk.px {g : Gt} {c : Ct} {X : Cx} {I : XI} {sg : Sig} {E : L2.St → XK} {cf : String → List Val → Store → Res Val} (x : XOk g c X I sg E cf) : ∀ σ, PassesAt (L2.CX X.prog X.w) X σ (E σ) := fun σ => passAt x.tk σ
theorem XOk.pf {g : Gt} {c : Ct} {X : Cx} {I : XI} {sg : Sig} {E : L2.St → XK} {cf : String → List Val → Store → Res Val} (x : XOk g c X I sg E cf) : Passes (L2.CX X.prog X.w) X (fun _ _ _ => False) := by
  intro pins σ H s e s' J q
  obtain ⟨_, _, _, _, _, _, _, _, _, _, _, _, z⟩ := q
  exact z.elim
/-- a try's body -/
theorem XOk.tr {g : Gt} {c : Ct} {X : Cx} {I : XI} {sg : Sig} {E : L2.St → XK} {cf : String → List Val → Store → Res Val} (x : XOk g c X I sg E cf) (W : WX) (pn : List (Addr × Obj)) (xe : Value → Shared → Prop) (t : Takes (X.tr pn xe) W) (po : PassesOwn (model X.prog X.w) X.A X.env xe) :
    XOk g c (X.tr pn xe) I sg (fun σ cls d H => W cls d σ H) cf :=
  ⟨x.N, x.sc, x.fn, x.nd, x.kd, x.calm, x.un, x.gu, po, t, fun f m fr h => ⟨(x.fns f m fr h).ex⟩, x.gvs, fun q hq => x.dxs q hq, x.blt, fun q hq m fr h => ⟨(x.fks q hq m fr h).ex⟩, x.xh, fun c h => ⟨(x.xm c h).ex⟩, x.xn, x.xs⟩
section
variable {g : Gt} {c : Ct} {X : Cx} {I : XI} {E : L2.St → XK} {sg : Sig} {cf : String → List Val → Store → Res Val} {O : List Nat}
theorem conv {a b : K3} {m : Env → Store → Res Val} {e : Expr} (h : JE X I E O (kdOf I X.K a) m e) (l : le3 a b = true) : JE X I E O (kdOf I X.K b) m e := by
  cases a <;> cases b <;> first | exact h | exact je_share h | exact je_kb h | exact je_fb h | (cases l; done)
theorem convF {b : K3} {m : Env → Store → Res Val} {e : Expr} (h : JE X I E O (kF I X.K) m e) : JE X I E O (kdOf I X.K b) m e := conv (a := .f) h (by cases b <;> rfl)
theorem kd_anti {k : K3} : Anti (kdOf I X.K k) := by
  cases k
  · exact kF_anti _ _
  · exact kS_anti _ _
  · exact kB_anti _ _
theorem var_ok (x : XOk g c X I sg E cf) {i : Nat} {y : Str} (h : varC c i y = true) : X.N[i]? = some y ∧ Vis X.env.scope y ∧ (y == ("__debug__" : Str)) = false ∧ (y == ("__classdict__" : Str)) = false := by
  unfold varC nmC visC at h
  simp only [Bool.and_eq_true, Bool.not_eq_true', Bool.or_eq_true, decide_eq_true_eq] at h
  obtain ⟨⟨⟨h1, h2⟩, h3⟩, h4⟩ := h
  refine ⟨by rw [x.N]; exact h4, ?_, h1, h2⟩
  unfold Vis
  rw [x.sc]
  rcases h3 with (h3 | h3) | h3
  · exact .inl h3
  · exact .inr (.inl h3)
  · exact .inr (.inr h3)
theorem tgt_ok (x : XOk g c X I sg E cf) {i : Nat} {y : Str} (h : tgtC c i y = true) : X.N[i]? = some y ∧ L2.Loc X.env.scope y ∧ (X.fn y = true ∨ X.env.scope.names.lookup y = some .local) := by
  unfold tgtC locC at h
  simp only [Bool.and_eq_true, Bool.or_eq_true, decide_eq_true_eq] at h
  obtain ⟨h3, h4⟩ := h
  unfold L2.Loc
  rw [x.sc, x.fn, x.N]
  refine ⟨h4, ?_, ?_⟩
  · rcases h3 with h3 | h3
    · exact .inl h3
    · exact .inr h3.1
  · rcases h3 with h3 | h3
    · exact .inr h3
    · exact .inl h3.2
theorem gl_ok (x : XOk g c X I sg E cf) {y : Str} (h : glC c y = true) : Gl X y ∧ (y == ("__debug__" : Str)) = false := by
  unfold glC at h
  simp only [Bool.and_eq_true, Bool.not_eq_true', decide_eq_true_eq] at h
  exact ⟨by show X.env.scope.names.lookup y = _; rw [x.sc]; exact h.1, h.2⟩
theorem blt_ok (x : XOk g c X I sg E cf) {n : String} {y : Str} (h : bltC c n y = true) : y = (n : Str) ∧ Gl X (n : Str) ∧ ((n : Str) == ("__debug__" : Str)) = false ∧ X.mg (n : Str) = none := by
  unfold bltC at h
  rw [Bool.and_eq_true, Bool.and_eq_true] at h
  have q := gl_ok x h.2
  exact ⟨of_decide_eq_true h.1.1, q.1, q.2, x.blt n (List.contains_iff_mem.mp h.1.2)⟩
theorem star_cons {e : Expr} {es : List Expr} {env : PySem.Env} (h : notStar e = true) : starEach (e :: es) env = (false, eval e env) :: starEach es env := by
  cases e <;> first | rfl | (cases h; done)
theorem stars_no {pos : Pos} {env : PySem.Env} : ∀ {es : List Expr}, (∀ e ∈ es, notStar e = true) → (backTo pos (starEach es env)).any (·.1) = false
  | [], _ => rfl
  | e :: es, h => by
    rw [star_cons (h e (List.mem_cons_self ..))]
    show (false || (backTo pos (starEach es env)).any (·.1)) = false
    rw [Bool.false_or]
    exact stars_no fun a ha => h a (List.mem_cons_of_mem _ ha)
theorem pix_ok {e : Expr} (h : pIx e = true) : PlainIx e := by
  intro o i
  cases e <;> first | rfl | (cases h; done)
theorem set_no {e : Expr} (h : notSet e = true) : ∀ es k p, e ≠ .Set es k p := by
  intro es k p z
  subst z
  cases h
theorem fold_no {e : Expr} {env : PySem.Env} (h : notSet e = true) : ∀ x, foldedSetIterable e env x = pure x := by
  intro x
  cases e <;> first | rfl | (cases h; done)
theorem sl_no {e : Expr} (h : pIx e = true) : ∀ l u p, e ≠ .Slice l u none p := by
  intro l u p z
  subst z
  cases h
theorem plain_ok {e : Expr} {env : PySem.Env} (h : plainT e = true) : ∀ whole, isTrue e env whole = (do let v ← whole; standAt e.pos; holding [v] (truthy v)) := by
  intro whole
  cases e <;> first | rfl | (cases h; done)
theorem noSl_ok {e : Expr} (h : noSlC e = true) : NoSl e := fun ov iv => by
  cases e <;> first | rfl | (cases h; done)
theorem op_ok {o : Bop} {op : Operator} (h : opC o op = true) : op = bopO o := (of_decide_eq_true h).symm
theorem cop_eq {o : Cop} {op : CmpOp} (h : copC o op = true) : op = copO o := (of_decide_eq_true h).symm
theorem bi_boot {b : Bi} {t : Bool} {n : String} (h : biN b = some (t, n)) : bootBuiltins (n : Str) = some (if t then .type n else .builtin n) ∧ (n : Str) ≠ "__name__" ∧ ((n : Str) == ("__debug__" : Str)) = false := by
  cases b <;> cases h <;> refine ⟨by rfl, by decide, by decide⟩

/-! ### targets -/
theorem asg_cons {e : Expr} {es : List Expr} {env : PySem.Env} (h : notStar e = true) : assignEach (e :: es) env = (false, assign e env) :: assignEach es env := by
  cases e <;> first | rfl | (cases h; done)
def PsOk (X : Cx) (I : XI) (ps : List Pat) (o : Option Nat) (es : List Expr) : Prop := match o with
  | none => (∀ O, PGs X es (gPs I X.K O ps)) ∧ (assignEach es X.env).length = ps.length ∧ (assignEach es X.env).findIdx? (·.1) = none
  | some i => (∀ O, PGs X es (gPs I X.K O (ps ++ [.v i]))) ∧ (assignEach es X.env).length = ps.length + 1 ∧ (assignEach es X.env).findIdx? (·.1) = some ps.length
theorem gs_star {p : Pat} {y : Str} {py sp : Pos} {O : List Nat} (h : PG X (.Name y py) (gP I X.K O p)) : PGs X [.Starred (.Name y py) sp] (gPs I X.K O [p]) :=
  ⟨fun pins s σ H vs us Q J r q => (gs_cons h (gs_nil (I := I) (O := less O p.vars)) rfl).run pins s σ H vs us Q J r q⟩
theorem ps_sound : ∀ (n : Nat) {c : Ct} {X : Cx} {E : L2.St → XK}, XOk g c X I sg E cf → (∀ {p : Pat} {e : Expr}, chkP n c p e = true → ∀ O, PG X e (gP I X.K O p)) ∧ (∀ {ps : List Pat} {o : Option Nat} {es : List Expr}, chkPs n c ps o es = true → PsOk X I ps o es)
  | 0, _, _, _, _ => ⟨fun h => (by cases h), fun h => (by cases h)⟩
  | n + 1, c, X, E, x => by
    obtain ⟨ih1, ih2⟩ := ps_sound n x
    refine ⟨fun {p e} h O => ?_, fun {ps o es} h => ?_⟩
    · unfold chkP at h
      cases p with
      | v i =>
        simp only at h
        split at h
        · obtain ⟨h1, h2, h3⟩ := tgt_ok x h
          exact g_v x.nd h1 h2 h3
        · cases h
      | tup ps =>
        simp only at h
        split at h
        · obtain ⟨h1, h2, h3⟩ := ih2 h
          exact g_tup x.calm (h1 O) h2 h3
        · cases h
      | star ps i =>
        simp only at h
        split at h
        · obtain ⟨h1, h2, h3⟩ := ih2 h
          exact g_star x.calm (h1 O) h2 h3
        · cases h
    · unfold chkPs at h
      split at h
      · split at h
        · exact ⟨fun O => gs_nil, rfl, rfl⟩
        · cases h
      · split at h
        · obtain ⟨h1, h2, h3⟩ := tgt_ok x h
          exact ⟨fun O => gs_star (g_v x.nd h1 h2 h3), rfl, rfl⟩
        · cases h
      · rename_i p ps e es
        rw [Bool.and_eq_true, Bool.and_eq_true] at h
        have q1 := ih1 h.1.2
        have q2 := ih2 h.2
        have ea := asg_cons (es := es) (env := X.env) h.1.1
        have em : (assignEach (e :: es) X.env).map (·.2) = assign e X.env :: (assignEach es X.env).map (·.2) := by rw [ea]; rfl
        cases o with
        | none =>
          obtain ⟨h1, h2, h3⟩ := q2
          refine ⟨fun O => gs_cons (q1 O) (h1 _) em, by rw [ea, List.length_cons, h2]; rfl, ?_⟩
          rw [ea, List.findIdx?_cons]
          simp [h3]
        | some i =>
          obtain ⟨h1, h2, h3⟩ := q2
          refine ⟨fun O => gs_cons (q1 O) (h1 _) em, by rw [ea, List.length_cons, h2]; rfl, ?_⟩
          rw [ea, List.findIdx?_cons]
          simp [h3]
      · cases h
end

/-! ### expressions -/
section
variable (g : Gt) (I : XI) (sg : Sig) (cf : String → List Val → Store → Res Val)
structure Snd (n : Nat) : Prop where
  e : ∀ {c : Ct} {X : Cx} {E : L2.St → XK} {O : List Nat} {k : K3} {ie : IE} {ae : Expr}, XOk g c X I sg E cf → chkE n g c O k ie ae = true → JE X I E O (kdOf I X.K k) (fun ρ S => evE sg cf ρ ie S) ae
  a : ∀ {c : Ct} {X : Cx} {E : L2.St → XK} {O : List Nat} {k : Bool} {es : List IE} {ees : List Expr}, XOk g c X I sg E cf → chkA n g c O k es ees = true →
    JA X I E O (if k then kBs I X.K else kSs I X.K) (fun ρ S => evEs sg cf ρ es S) ees ∧ (∀ e ∈ ees, notStar e = true) ∧ es.length = ees.length
  k : ∀ {c : Ct} {X : Cx} {E : L2.St → XK} {O : List Nat} {es : List IE} {kws : List Keyword}, XOk g c X I sg E cf → chkK n g c O es kws = true → JK X I E O (fun ρ S => evEs sg cf ρ es S) kws ∧ es.length = kws.length
  d : ∀ {c : Ct} {X : Cx} {E : L2.St → XK} {O : List Nat} {ks : List Str} {es : List IE} {kk : List (Option Expr)} {vv : List Expr}, XOk g c X I sg E cf → chkD n g c O ks es kk vv = true → JDs X I E O sg cf ks es kk vv
  an : ∀ {c : Ct} {X : Cx} {E : L2.St → XK} {O : List Nat} {k : K3} {es : List IE} {ees : List Expr} {pos : Pos}, XOk g c X I sg E cf → chkAnd n g c O k es ees = true →
    JE X I E O (kdOf I X.K k) (fun ρ S => evAnd sg cf ρ es S) (.BoolOp .And ees pos) ∧ JE X I E O (kdOf I X.K k) (fun ρ S => evOr sg cf ρ es S) (.BoolOp .Or ees pos)
  o : ∀ {c : Ct} {X : Cx} {E : L2.St → XK} {O : List Nat} {es : List IE} {e : Option Expr}, XOk g c X I sg E cf → chkO n g c O es e = true → JO X I E O (fun ρ S => evO sg cf ρ es S) e
  t : ∀ {c : Ct} {X : Cx} {E : L2.St → XK} {O : List Nat} {ie : IE} {ae : Expr}, XOk g c X I sg E cf → chkT n g c O ie ae = true → JT X I E O (fun ρ S => evT sg cf ρ ie S) ae
  ta : ∀ {c : Ct} {X : Cx} {E : L2.St → XK} {O : List Nat} {es : List IE} {ees : List Expr} {pos : Pos}, XOk g c X I sg E cf → chkTA n g c O es ees = true →
    JW X I E O (fun ρ S => evAndT sg cf ρ es S) (.BoolOp .And ees pos) ∧ JW X I E O (fun ρ S => evOrT sg cf ρ es S) (.BoolOp .Or ees pos)
  i : ∀ {c : Ct} {X : Cx} {E : L2.St → XK} {O : List Nat} {k : Nat} {its : List IE} {tg iter : Expr}, XOk g c X I sg E cf → chkI n g c O k its tg iter = true → JI X I E O (evIt sg cf k its) tg iter ∧ notSet iter = true
  c : ∀ {c : Ct} {X : Cx} {E : L2.St → XK} {O : List Nat} {k : Nat} {its : List IE} {p : Pat} {cs : List IE} {e : IE} {elt tg iter : Expr} {ifs : List Expr} {scope : Scope}, XOk g c X I sg E cf → chkC n g c O k its p cs e elt tg iter ifs scope = true →
    JI X I E O (evIt sg cf k its) tg iter ∧ notSet iter = true ∧ ∃ own : List (Str × Nat), BlkOk X.N X.env.scope scope own ∧ own.map (·.2) = p.vars ∧
    (∀ (s : Shared) (H : Hp) (C : Addr) (cl : List (Str × Addr)) (fp : List Addr), PG (X.blk s H scope (compEnvC scope cl C X.env) fp) tg (gP I X.K O p)) ∧
    (∀ (s : Shared) (H : Hp) (C : Addr) (cl : List (Str × Addr)) (fp : List Addr), PTs (X.blk s H scope (compEnvC scope cl C X.env) fp) ifs (rd I X.K (fun _ => E0') (less O p.vars) kT (fun ρ S => evTs sg cf ρ cs S))) ∧
    (∀ (s : Shared) (H : Hp) (C : Addr) (cl : List (Str × Addr)) (fp : List Addr), PE (X.blk s H scope (compEnvC scope cl C X.env) fp) elt (rd I X.K (fun _ => E0') (less O p.vars) (kS I X.K) (fun ρ S => evE sg cf ρ e S)))
end
section
variable {g : Gt} {I : XI} {sg : Sig} {cf : String → List Val → Store → Res Val}
theorem XOk.blk {c : Ct} {X : Cx} {E : L2.St → XK} {s : Shared} {H : Hp} {C : Addr} {cl : List (Str × Addr)} {fp : List Addr} {scope : Scope} {own : List (Str × Nat)} (x : XOk g c X I sg E cf) (ok : BlkOk X.N X.env.scope scope own) :
    XOk g (innerC c scope) (X.blk s H scope (compEnvC scope cl C X.env) fp) I sg (fun _ => E0') cf where
  N := x.N
  sc := by
    show relS scope X.env.scope = relS scope c.sc
    rw [x.sc]
  fn := rfl
  nd := x.nd
  kd := ok.kind
  calm := x.calm
  un := x.un
  gu := x.gu
  po := .never
  tk := fun u s' z => by
    obtain ⟨_, _, _, _, _, _, _, _, _, _, _, _, _, _, _, _, z⟩ := z
    exact z.elim
  fns := fun f m fr h => ⟨(x.fns f m fr h).ex⟩
  gvs := x.gvs
  dxs := fun q hq => x.dxs q hq
  blt := x.blt
  fks := fun q hq m fr h => ⟨(x.fks q hq m fr h).ex⟩
  xh := x.xh
  xm := fun c h => ⟨(x.xm c h).ex⟩
  xn := x.xn
  xs := x.xs
theorem snd_a {n : Nat} (ih : Snd g I sg cf n) {c : Ct} {X : Cx} {E : L2.St → XK} {O : List Nat} {k : Bool} {es : List IE} {ees : List Expr} (x : XOk g c X I sg E cf) (h : chkA (n + 1) g c O k es ees = true) :
    JA X I E O (if k then kBs I X.K else kSs I X.K) (fun ρ S => evEs sg cf ρ es S) ees ∧ (∀ e ∈ ees, notStar e = true) ∧ es.length = ees.length := by
  unfold chkA at h
  split at h
  · refine ⟨?_, fun e he => by (cases he), rfl⟩
    cases k
    · exact ja_nilS
    · exact ja_nilB
  · rename_i a r ea er
    rw [Bool.and_eq_true, Bool.and_eq_true] at h
    obtain ⟨h1, h2, h3⟩ := ih.a x h.2
    have q := ih.e x h.1.2
    refine ⟨?_, fun e he => ?_, by rw [List.length_cons, List.length_cons, h3]⟩
    · cases k
      · exact ja_consS q h1 (star_cons h.1.1)
      · exact ja_consB q h1 (star_cons h.1.1)
    · rcases List.mem_cons.mp he with rfl | he
      · exact h.1.1
      · exact h2 e he
  · cases h
theorem snd_d {n : Nat} (ih : Snd g I sg cf n) {c : Ct} {X : Cx} {E : L2.St → XK} {O : List Nat} {ks : List Str} {es : List IE} {kk : List (Option Expr)} {vv : List Expr} (x : XOk g c X I sg E cf) (h : chkD (n + 1) g c O ks es kk vv = true) :
    JDs X I E O sg cf ks es kk vv := by
  unfold chkD at h
  split at h
  · exact .nil
  · simp only [Bool.and_eq_true, decide_eq_true_eq] at h
    obtain ⟨⟨rfl, h2⟩, h3⟩ := h
    exact .cons (ih.e (k := .s) x h2) (ih.d x h3)
  · cases h
theorem snd_k {n : Nat} (ih : Snd g I sg cf n) {c : Ct} {X : Cx} {E : L2.St → XK} {O : List Nat} {es : List IE} {kws : List Keyword} (x : XOk g c X I sg E cf) (h : chkK (n + 1) g c O es kws = true) : JK X I E O (fun ρ S => evEs sg cf ρ es S) kws ∧ es.length = kws.length := by
  unfold chkK at h
  split at h
  · exact ⟨jk_nil, rfl⟩
  · rename_i a r kw er
    obtain ⟨nm, v, kp⟩ := kw
    rw [Bool.and_eq_true] at h
    obtain ⟨q1, q2⟩ := ih.k x h.2
    exact ⟨jk_cons (ih.e x h.1) q1, by rw [List.length_cons, List.length_cons, q2]⟩
  · cases h
theorem kw_all {pos : Pos} {env : PySem.Env} : ∀ {kws : List Keyword} {ks : List Str}, kwNames kws = ks.map some → (backToKw pos (keywordEach kws env)).all (·.1.isSome) = true ∧ (backToKw pos (keywordEach kws env)).filterMap (·.1) = ks ∧ (backToKw pos (keywordEach kws env)).any (·.1.isNone) = false
  | [], [], _ => ⟨rfl, rfl, rfl⟩
  | [], _ :: _, h => by cases h
  | ⟨a, v, p⟩ :: r, [], h => by cases h
  | ⟨a, v, p⟩ :: r, k :: ks, h => by
    have h : a :: kwNames r = some k :: ks.map some := h
    obtain ⟨rfl, h2⟩ := List.cons.inj h
    obtain ⟨q1, q2, q3⟩ := kw_all (pos := pos) (env := env) h2
    refine ⟨?_, ?_, ?_⟩
    · show (true && (backToKw pos (keywordEach r env)).all (·.1.isSome)) = true
      rw [q1]
      rfl
    · show k :: (backToKw pos (keywordEach r env)).filterMap (·.1) = k :: ks
      rw [q2]
    · show (false || (backToKw pos (keywordEach r env)).any (·.1.isNone)) = false
      rw [q3]
      rfl
theorem kw_len {kws : List Keyword} {ks : List Str} (h : kwNames kws = ks.map some) : kws.length = ks.length := by
  have z := congrArg List.length h
  unfold kwNames at z
  simpa using z
theorem attr_no {ee : Expr} {f : Str} {env : PySem.Env} {w : Sem Value} (h : notCallE ee = true) : attributeBase ee f env w = w := by
  cases ee <;> first | rfl | (cases h; done)
theorem snd_an {n : Nat} (ih : Snd g I sg cf n) {c : Ct} {X : Cx} {E : L2.St → XK} {O : List Nat} {k : K3} {es : List IE} {ees : List Expr} {pos : Pos} (x : XOk g c X I sg E cf) (h : chkAnd (n + 1) g c O k es ees = true) :
    JE X I E O (kdOf I X.K k) (fun ρ S => evAnd sg cf ρ es S) (.BoolOp .And ees pos) ∧ JE X I E O (kdOf I X.K k) (fun ρ S => evOr sg cf ρ es S) (.BoolOp .Or ees pos) := by
  unfold chkAnd at h
  split at h
  · exact ⟨j_and1 (ih.e x h), j_or1 (ih.e x h)⟩
  · rw [Bool.and_eq_true] at h
    have q1 := ih.e x h.1
    have q2 := ih.an (pos := pos) x h.2
    exact ⟨convF (j_and q1 q2.1), convF (j_or q1 q2.2)⟩
  · cases h
theorem snd_o {n : Nat} (ih : Snd g I sg cf n) {c : Ct} {X : Cx} {E : L2.St → XK} {O : List Nat} {es : List IE} {e : Option Expr} (x : XOk g c X I sg E cf) (h : chkO (n + 1) g c O es e = true) : JO X I E O (fun ρ S => evO sg cf ρ es S) e := by
  unfold chkO at h
  split at h
  · exact jo_none
  · exact jo_some (ih.e x h)
  · cases h
theorem snd_ta {n : Nat} (ih : Snd g I sg cf n) {c : Ct} {X : Cx} {E : L2.St → XK} {O : List Nat} {es : List IE} {ees : List Expr} {pos : Pos} (x : XOk g c X I sg E cf) (h : chkTA (n + 1) g c O es ees = true) :
    JW X I E O (fun ρ S => evAndT sg cf ρ es S) (.BoolOp .And ees pos) ∧ JW X I E O (fun ρ S => evOrT sg cf ρ es S) (.BoolOp .Or ees pos) := by
  unfold chkTA at h
  split at h
  · exact ⟨jw_and1 (ih.t x h), jw_or1 (ih.t x h)⟩
  · rw [Bool.and_eq_true] at h
    have q1 := ih.t x h.1
    have q2 := ih.ta (pos := pos) x h.2
    exact ⟨jw_and q1 q2.1, jw_or q1 q2.2⟩
  · cases h
theorem snd_t {n : Nat} (ih : Snd g I sg cf n) {c : Ct} {X : Cx} {E : L2.St → XK} {O : List Nat} {ie : IE} {ae : Expr} (x : XOk g c X I sg E cf) (h : chkT (n + 1) g c O ie ae = true) : JT X I E O (fun ρ S => evT sg cf ρ ie S) ae := by
  unfold chkT at h
  split at h
  · split at h
    · simp only [Bool.and_eq_true] at h
      rw [cop_eq h.1.1.1]
      exact jt_cmp x.un (set_no h.1.1.2) (ih.e x h.1.2) (ih.e x h.2)
    · cases h
  · split at h
    · simp only [Bool.and_eq_true] at h
      obtain ⟨⟨⟨⟨⟨h1, h2⟩, h3⟩, h4⟩, h5⟩, h6⟩ := h
      rw [cop_eq h1, cop_eq h2]
      exact jt_chain x.un (set_no h3) (ih.e x h4) (ih.e x h5) (ih.e x h6)
    · cases h
  · split at h
    · exact jt_not (ih.t x h)
    · cases h
  · rename_i op ees pos
    split at h
    · have q := (ih.ta (pos := pos) x h).1.pt
      refine ⟨fun pins s σ H Q J ⟨W, ρ, S, sr, z⟩ => q.run pins s σ H Q J ⟨W, ρ, S, sr, ?_⟩⟩
      simpa only [evT, evE, evAndT] using z
    · have q := (ih.ta (pos := pos) x h).2.pt
      refine ⟨fun pins s σ H Q J ⟨W, ρ, S, sr, z⟩ => q.run pins s σ H Q J ⟨W, ρ, S, sr, ?_⟩⟩
      simpa only [evT, evE, evOrT] using z
    · cases h
  · rw [Bool.and_eq_true] at h
    exact jt_any (plain_ok h.1) (ih.e x h.2)
theorem snd_i {n : Nat} (ih : Snd g I sg cf n) {c : Ct} {X : Cx} {E : L2.St → XK} {O : List Nat} {k : Nat} {its : List IE} {tg iter : Expr} (x : XOk g c X I sg E cf) (h : chkI (n + 1) g c O k its tg iter = true) : JI X I E O (evIt sg cf k its) tg iter ∧ notSet iter = true := by
  unfold chkI at h
  rw [Bool.and_eq_true] at h
  refine ⟨?_, h.1⟩
  replace h := h.2
  split at h
  · split at h
    · exact ji_seq (ih.e x h)
    · cases h
  · split at h
    · rw [Bool.and_eq_true] at h
      obtain ⟨rfl, h1, h2, h3⟩ := blt_ok x h.1
      obtain ⟨h4, h5, h6⟩ := ih.a x h.2
      exact ji_range1 h1 h3 h4 (star_cons (h5 _ (List.mem_cons_self ..)))
    · cases h
  · split at h
    · rw [Bool.and_eq_true] at h
      obtain ⟨rfl, h1, h2, h3⟩ := blt_ok x h.1
      obtain ⟨h4, h5, h6⟩ := ih.a x h.2
      have s1 := h5 _ (List.mem_cons_self ..)
      have s2 := h5 _ (List.mem_cons_of_mem _ (List.mem_cons_self ..))
      exact ji_range2 h1 h3 h4 (by rw [star_cons s1, star_cons s2]; rfl) (star_cons s2)
    · cases h
  · split at h
    · split at h
      · rw [Bool.and_eq_true] at h
        obtain ⟨rfl, h1, h2, h3⟩ := blt_ok x h.1
        obtain ⟨h4, h5, h6⟩ := ih.a x h.2
        have s1 := h5 _ (List.mem_cons_self ..)
        exact ji_zip h1 h3 h4 (star_cons s1) (stars_no fun e he => h5 e (List.mem_cons_of_mem _ he))
      · cases h
    · cases h
  · split at h
    · split at h
      · rw [Bool.and_eq_true] at h
        obtain ⟨rfl, h1, h2, h3⟩ := blt_ok x h.1
        obtain ⟨h4, h5, h6⟩ := ih.a x h.2
        exact ji_enum h1 h3 h4 (star_cons (h5 _ (List.mem_cons_self ..)))
      · cases h
    · cases h
  · cases h
theorem snd_c {n : Nat} (ih : Snd g I sg cf n) {c : Ct} {X : Cx} {E : L2.St → XK} {O : List Nat} {k : Nat} {its : List IE} {p : Pat} {cs : List IE} {e : IE} {elt tg iter : Expr} {ifs : List Expr} {scope : Scope} (x : XOk g c X I sg E cf) (h : chkC (n + 1) g c O k its p cs e elt tg iter ifs scope = true) :
    JI X I E O (evIt sg cf k its) tg iter ∧ notSet iter = true ∧ ∃ own : List (Str × Nat), BlkOk X.N X.env.scope scope own ∧ own.map (·.2) = p.vars ∧
    (∀ (s : Shared) (H : Hp) (C : Addr) (cl : List (Str × Addr)) (fp : List Addr), PG (X.blk s H scope (compEnvC scope cl C X.env) fp) tg (gP I X.K O p)) ∧
    (∀ (s : Shared) (H : Hp) (C : Addr) (cl : List (Str × Addr)) (fp : List Addr), PTs (X.blk s H scope (compEnvC scope cl C X.env) fp) ifs (rd I X.K (fun _ => E0') (less O p.vars) kT (fun ρ S => evTs sg cf ρ cs S))) ∧
    (∀ (s : Shared) (H : Hp) (C : Addr) (cl : List (Str × Addr)) (fp : List Addr), PE (X.blk s H scope (compEnvC scope cl C X.env) fp) elt (rd I X.K (fun _ => E0') (less O p.vars) (kS I X.K) (fun ρ S => evE sg cf ρ e S))) := by
  unfold chkC at h
  simp only [Bool.and_eq_true] at h
  obtain ⟨⟨⟨⟨h1, h2⟩, h3⟩, h4⟩, h5⟩ := h
  have ok : BlkOk X.N X.env.scope scope (ownOf c p) := by
    rw [x.N, x.sc]
    exact blkOk_by h1
  obtain ⟨q1, q2⟩ := ih.i x h2
  refine ⟨q1, q2, ownOf c p, ok, ?_, fun s H C cl fp => ?_, fun s H C cl fp => ?_, fun s H C cl fp => ?_⟩
  · unfold ownOf
    rw [List.map_map]
    exact List.map_id' _
  · exact (ps_sound n (x.blk (s := s) (H := H) (C := C) (cl := cl) (fp := fp) ok)).1 h3 O
  · split at h4
    · exact jts_nil
    · exact jts_one (ih.t (x.blk ok) h4)
    · cases h4
  · exact ih.e (k := .s) (x.blk ok) h5
theorem any_gv {x : String} {v : Val} : ∀ {l : List (String × Val)}, (l.any fun q => q.1 == x && sameV q.2 v) = true → (x, v) ∈ l := by
  intro l h
  rw [List.any_eq_true] at h
  obtain ⟨⟨a, b⟩, h1, h2⟩ := h
  rw [Bool.and_eq_true] at h2
  have e1 : a = x := eq_of_beq h2.1
  have e2 := sameV_eq h2.2
  simp only at e2
  rw [← e1, ← e2]
  exact h1
theorem any_dx {x : String} {v : List (Str × Val)} : ∀ {l : List (String × List (Str × Val))}, (l.any fun q => q.1 == x && sameKv q.2 v) = true → (x, v) ∈ l := by
  intro l h
  rw [List.any_eq_true] at h
  obtain ⟨⟨a, b⟩, h1, h2⟩ := h
  rw [Bool.and_eq_true] at h2
  have e1 : a = x := eq_of_beq h2.1
  have e2 := sameKv_eq h2.2
  simp only at e2
  rw [← e1, ← e2]
  exact h1
theorem snd_e {n : Nat} (ih : Snd g I sg cf n) {c : Ct} {X : Cx} {E : L2.St → XK} {O : List Nat} {k : K3} {ie : IE} {ae : Expr} (x : XOk g c X I sg E cf) (h : chkE (n + 1) g c O k ie ae = true) : JE X I E O (kdOf I X.K k) (fun ρ S => evE sg cf ρ ie S) ae := by
  unfold chkE at h
  cases ie with
  | lv i =>
    simp only at h
    split at h
    · rw [Bool.and_eq_true] at h
      obtain ⟨h1, h2, h3, h4⟩ := var_ok x h.1
      by_cases hO : i ∈ O
      · rw [if_pos (by simpa using hO)] at h
        exact conv (a := .b) (j_lvB h1 h2 h3 h4) h.2
      · rw [if_neg (by simpa using hO)] at h
        exact conv (a := .s) (j_lv h1 h2 h3 h4 hO) h.2
    · cases h
  | cst v =>
    simp only at h
    split at h
    · rw [sameV_eq h]
      exact convF j_int
    · rw [sameV_eq h]
      exact convF j_bool
    · rw [sameV_eq h]
      exact convF j_non
    · simp only [Bool.and_eq_true, decide_eq_true_eq] at h
      rw [sameV_eq h.1.1]
      exact convF (j_str h.1.2 h.2)
    · cases h
  | gv y v =>
    simp only at h
    split at h
    · simp only [Bool.and_eq_true, decide_eq_true_eq] at h
      obtain ⟨⟨⟨rfl, h1⟩, h2⟩, h3⟩ := h
      obtain ⟨h4, h5⟩ := gl_ok x h1
      exact conv (a := .s) (j_gv (x.gvs _ (any_gv h3)) h4 h5) h2
    · cases h
  | bin o a b =>
    simp only at h
    split at h
    · simp only [Bool.and_eq_true] at h
      rw [op_ok h.1.1]
      exact convF (j_bin (ih.e x h.1.2) (ih.e x h.2))
    · cases h
  | neg a =>
    simp only at h
    split at h
    · exact convF (j_neg (ih.e x h))
    · cases h
  | cmp o a b =>
    simp only at h
    split at h
    · simp only [Bool.and_eq_true] at h
      rw [cop_eq h.1.1.1]
      exact convF (j_cmp x.un (set_no h.1.1.2) (ih.e x h.1.2) (ih.e x h.2))
    · cases h
  | chain o1 o2 a b t =>
    simp only at h
    split at h
    · simp only [Bool.and_eq_true] at h
      obtain ⟨⟨⟨⟨⟨h1, h2⟩, h3⟩, h4⟩, h5⟩, h6⟩ := h
      rw [cop_eq h1, cop_eq h2]
      exact convF (j_chain x.un (set_no h3) (ih.e x h4) (ih.e x h5) (ih.e x h6))
    · cases h
  | dsub d q =>
    simp only at h
    split at h
    · simp only [Bool.and_eq_true] at h
      obtain ⟨⟨⟨h1, h2⟩, h3⟩, h4⟩ := h
      exact conv (a := .s) (j_dsub x.un (noSl_ok h2) (ih.e x h3) (ih.e x h4)) h1
    · cases h
  | dctE ks es =>
    simp only at h
    split at h
    · simp only [Bool.and_eq_true] at h
      obtain ⟨⟨⟨h1, h2⟩, h3⟩, h4⟩ := h
      exact conv (a := .s) (j_dctE (ih.d x h4) (fun z => by rw [z] at h2; cases h2) (of_decide_eq_true h3)) h1
    · cases h
  | dget d q xs =>
    simp only at h
    split at h
    · simp only [Bool.and_eq_true, decide_eq_true_eq] at h
      obtain ⟨⟨⟨⟨⟨rfl, h2⟩, h3⟩, h4⟩, h5⟩, h6⟩ := h
      exact conv (a := .s) (j_dget1 x.un (m1_ok (star_cons h4) h3) (ih.e x h5) (ih.e x h6)) h2
    · simp only [Bool.and_eq_true, decide_eq_true_eq] at h
      obtain ⟨⟨⟨⟨⟨rfl, h2⟩, h3⟩, h4⟩, h5⟩, h6⟩ := h
      exact conv (a := .s) (j_dget1 x.un (m1_okD (star_cons h4) h3) (ih.e x h5) (ih.e x h6)) h2
    · simp only [Bool.and_eq_true, decide_eq_true_eq] at h
      obtain ⟨⟨⟨⟨⟨⟨⟨rfl, h2⟩, h3⟩, h4⟩, h4'⟩, h5⟩, h6⟩, h7⟩ := h
      exact conv (a := .s) (j_dget2 x.un (m2_ok ((star_cons h4).trans (by rw [star_cons h4']; rfl)) h3 rfl) (ih.e x h5) (ih.e x h6) (ih.e x h7)) h2
    · cases h
  | sm1 m o e =>
    simp only at h
    split at h
    · simp only [Bool.and_eq_true, decide_eq_true_eq] at h
      obtain ⟨⟨⟨⟨rfl, h2⟩, h3⟩, h4⟩, h5⟩ := h
      exact convF (j_sm1 (ih.e x h4) (ih.e x h5) (star_cons h3) rfl h2)
    · cases h
  | sm0 o =>
    simp only at h
    split at h
    · simp only [Bool.and_eq_true, decide_eq_true_eq] at h
      obtain ⟨⟨rfl, h2⟩, h3⟩ := h
      exact convF (j_sm0 (ih.e x h3) h2)
    · cases h
  | rev a =>
    simp only at h
    split at h
    · exact convF (j_rev (ih.e x h))
    · cases h
  | lrg es =>
    simp only at h
    split at h
    · simp only [Bool.and_eq_true] at h
      obtain ⟨⟨⟨h1, h2⟩, h3⟩, h4⟩ := h
      obtain ⟨rfl, g1, g2, g3⟩ := blt_ok x h1
      obtain ⟨rfl, k1, k2, k3⟩ := blt_ok x h2
      exact convF (j_lrg1 x.calm g1 g3 k1 k3 (ih.e x h4) (star_cons h3))
    · simp only [Bool.and_eq_true] at h
      obtain ⟨⟨⟨⟨⟨h1, h2⟩, h3⟩, h3'⟩, h4⟩, h5⟩ := h
      obtain ⟨rfl, g1, g2, g3⟩ := blt_ok x h1
      obtain ⟨rfl, k1, k2, k3⟩ := blt_ok x h2
      exact convF (j_lrg2 x.calm g1 g3 k1 k3 (ih.e x h4) (ih.e x h5) (star_cons h3) (star_cons h3'))
    · cases h
  | isx e nm =>
    simp only at h
    split at h
    · simp only [Bool.and_eq_true, decide_eq_true_eq] at h
      obtain ⟨⟨⟨⟨⟨h1, rfl⟩, h3⟩, h4⟩, h5⟩, h6⟩ := h
      obtain ⟨rfl, a1, a2, a3⟩ := blt_ok x h1
      obtain ⟨b1, b2⟩ := gl_ok x h3
      exact convF (j_isx x.xh (x.xn _ (List.contains_iff_mem.mp h4)) a1 a3 b1 b2 (ih.e x h6) (star_cons h5))
    · cases h
  | mkx cn e =>
    simp only at h
    split at h
    · simp only [Bool.and_eq_true, decide_eq_true_eq] at h
      obtain ⟨⟨⟨⟨rfl, a1⟩, a2⟩, a3⟩, a4⟩ := h
      obtain ⟨b1, b2⟩ := gl_ok x a1
      exact convF (j_mkx (x.xm _ a2) b1 b2 x.pf (ih.e x a4) (star_cons (es := []) a3))
    · simp only [Bool.and_eq_true, decide_eq_true_eq] at h
      obtain ⟨⟨rfl, a1⟩, a2⟩ := h
      obtain ⟨b1, b2⟩ := gl_ok x a1
      cases e1 : g.xcs.lookup cn with
      | none => rw [e1] at a2; cases a2
      | some q =>
        obtain ⟨B, f⟩ := q
        rw [e1] at a2
        simp only [Bool.and_eq_true, decide_eq_true_eq] at a2
        obtain ⟨rfl, a3⟩ := a2
        exact convF (j_mkxK (x.xm _ (by rw [e1]; rfl)) (x.xs cn B f e1) b1 b2 x.pf (jk_cons (ih.e x a3) jk_nil))
    · cases h
  | fldx e f =>
    simp only at h
    split at h
    · simp only [Bool.and_eq_true, decide_eq_true_eq] at h
      obtain ⟨⟨⟨rfl, h2⟩, h3⟩, h4⟩ := h
      exact conv (a := .s) (j_fldx x.xh (ih.e x h4) (attr_no h3)) h2
    · cases h
  | callB f es np src =>
    simp only at h
    split at h
    · rename_i y py ees kws pos
      simp only [Bool.and_eq_true, decide_eq_true_eq] at h
      obtain ⟨⟨rfl, h1⟩, h2⟩ := h
      obtain ⟨h3, h4⟩ := gl_ok x h1
      cases e1 : g.fns.lookup f with
      | none => rw [e1] at h2; cases h2
      | some q =>
        obtain ⟨m, fr⟩ := q
        rw [e1] at h2
        simp only [Bool.and_eq_true, decide_eq_true_eq] at h2
        obtain ⟨⟨⟨⟨⟨h5, h6⟩, h7⟩, h8⟩, h9⟩, h10⟩ := h2
        obtain ⟨q, hq, hq2⟩ := List.any_eq_true.mp h6
        simp only [Bool.and_eq_true, decide_eq_true_eq] at hq2
        obtain ⟨⟨⟨u1, u2⟩, u3⟩, u4⟩ := hq2
        have u4 := sameSrc_eq u4
        have cc := x.fks q hq m fr (by rw [u1]; exact e1)
        rw [u1, u2, u4] at cc
        obtain ⟨q1, q2, q3⟩ := ih.a x h9
        obtain ⟨q4, q5⟩ := ih.k x h10
        obtain ⟨w1, w2, w3⟩ := kw_all (pos := pos) (env := X.env) u3
        have hl : (es.drop np).length = q.2.2.1.length := by rw [q5, kw_len u3]
        have ed : es.take np ++ es.drop np = es := List.take_append_drop np es
        have fin : JE X I E O (kFS I X.K fr) (fun ρ S => evE sg cf ρ (.callB f es np src) S) (.Call (.Name (f : Str) py) ees kws pos) := by
          rw [← ed]
          cases ees with
          | nil =>
            have n0 : np = 0 := h8
            subst n0
            rw [List.take_zero, List.nil_append]
            exact j_callB0 cc x.px h3 h4 hl q4 w1 w2 (by show (false || _) = false; rw [w3]; rfl)
          | cons ea er =>
            exact j_callB cc x.px h3 h4 (by rw [List.length_take]; omega) hl q1 q4 w1 w2 (star_cons (q2 _ (List.mem_cons_self ..))) (by
              rw [w3, Bool.or_false, star_cons (q2 _ (List.mem_cons_self ..))]
              show (false || (backTo pos (starEach er X.env)).any (·.1)) = false
              rw [stars_no fun e he => q2 e (List.mem_cons_of_mem _ he)]
              rfl)
        cases fr with
        | true => exact conv (a := .f) fin h5
        | false => exact conv (a := .s) fin h5
    · cases h
  | not a =>
    simp only at h
    split at h
    · exact convF (j_not (ih.e x h))
    · cases h
  | and es =>
    simp only at h
    split at h
    · simp only [evE]
      exact (ih.an x h).1
    · cases h
  | or es =>
    simp only at h
    split at h
    · simp only [evE]
      exact (ih.an x h).2
    · cases h
  | ite t a b =>
    simp only at h
    split at h
    · simp only [Bool.and_eq_true] at h
      exact j_ite kd_anti (ih.t x h.1.1) (ih.e x h.1.2) (ih.e x h.2)
    · cases h
  | tup es =>
    simp only at h
    split at h
    · simp only [Bool.and_eq_true, decide_eq_true_eq] at h
      exact convF (j_tup h.1 (ih.a x h.2).1)
    · cases h
  | lst es =>
    simp only at h
    split at h
    · simp only [Bool.and_eq_true, decide_eq_true_eq] at h
      exact convF (j_lst h.1 (ih.a x h.2).1)
    · cases h
  | box es =>
    simp only at h
    split at h
    · simp only [Bool.and_eq_true, decide_eq_true_eq] at h
      exact convF (j_box h.1 (ih.a x h.2).1)
    · cases h
  | ix a i =>
    simp only at h
    split at h
    · simp only [Bool.and_eq_true] at h
      exact conv (a := .s) (j_ix (pix_ok h.1.1.2) (ih.e x h.1.2) (ih.e x h.2)) h.1.1.1
    · cases h
  | sl a lo hi =>
    simp only at h
    split at h
    · simp only [Bool.and_eq_true] at h
      exact convF (j_sl (ih.e x h.1.1) (ih.o x h.1.2) (ih.o x h.2))
    · cases h
  | call f es =>
    simp only at h
    split at h
    · rename_i y py ees pos
      simp only [Bool.and_eq_true, decide_eq_true_eq] at h
      obtain ⟨⟨rfl, h1⟩, h2⟩ := h
      obtain ⟨h3, h4⟩ := gl_ok x h1
      cases e1 : g.fns.lookup f with
      | none => rw [e1] at h2; cases h2
      | some q =>
        obtain ⟨m, fr⟩ := q
        rw [e1] at h2
        simp only [Bool.and_eq_true, decide_eq_true_eq] at h2
        obtain ⟨⟨rfl, h5⟩, h6⟩ := h2
        obtain ⟨q1, q2, q3⟩ := ih.a x h6
        have cc := x.fns _ _ _ e1
        have fin : JE X I E O (kFS I X.K fr) (fun ρ S => evE sg cf ρ (.call f es) S) (.Call (.Name (f : Str) py) ees [] pos) := by
          cases ees with
          | nil =>
            have ez : es = [] := List.eq_nil_of_length_eq_zero q3
            subst ez
            exact j_call0 cc x.px h3 h4
          | cons ea er => exact j_call cc x.px h3 h4 q1 (star_cons (q2 _ (List.mem_cons_self ..))) (stars_no fun e he => q2 e (List.mem_cons_of_mem _ he))
        cases fr with
        | true => exact conv (a := .f) fin h5
        | false => exact conv (a := .s) fin h5
    · cases h
  | bi b es =>
    simp only at h
    split at h
    · rename_i y py ea er pos
      cases e1 : biN b with
      | none => rw [e1] at h; cases h
      | some q =>
        obtain ⟨t, m⟩ := q
        rw [e1] at h
        simp only [Bool.and_eq_true] at h
        obtain ⟨rfl, h1, h2, h3⟩ := blt_ok x h.1
        obtain ⟨q1, q2, q3⟩ := ih.a x h.2
        obtain ⟨b1, b2, b3⟩ := bi_boot e1
        exact convF (j_bi x.calm x.gu x.un e1 h1 h3 b1 q1 b2 b3 (star_cons (q2 _ (List.mem_cons_self ..))) (stars_no fun e he => q2 e (List.mem_cons_of_mem _ he)))
    · cases e1 : bkN b with
      | none => rw [e1] at h; cases h
      | some q =>
        obtain ⟨m, kn⟩ := q
        rw [e1] at h
        simp only at h
        split at h
        · simp only [Bool.and_eq_true, decide_eq_true_eq] at h
          obtain ⟨⟨⟨⟨h1, rfl⟩, h3⟩, h4⟩, h5⟩ := h
          obtain ⟨rfl, g1, g2, g3⟩ := blt_ok x h1
          exact convF (j_bk x.calm e1 g1 g3 g2 (ih.e x h4) (ih.e x h5) (star_cons h3))
        · cases h
    · split at h
      · split at h
        · simp only [Bool.and_eq_true, decide_eq_true_eq] at h
          obtain ⟨⟨⟨⟨⟨⟨h1, h2⟩, h3⟩, h4⟩, h5⟩, h6⟩, h7⟩ := h
          rw [sameV_eq h1]
          subst h2
          exact convF (j_join h3 h4 h5 (ih.e x h7) (star_cons h6))
        · cases h
      · cases h
    · cases h
  | isa e ts =>
    simp only at h
    split at h
    · split at h
      · split at h
        · rename_i t m e1
          simp only [Bool.and_eq_true] at h
          obtain ⟨rfl, h1, h2, h3⟩ := blt_ok x h.1.1.1
          obtain ⟨rfl, h4, h5, h6⟩ := blt_ok x h.1.1.2
          exact convF (j_isa e1 h1 h3 h4 h6 (ih.e x h.2) (star_cons h.1.2))
        · cases h
      · cases h
    · split at h
      · split at h
        · rename_i t t2 m m2 e1 e2
          simp only [Bool.and_eq_true, decide_eq_true_eq] at h
          obtain ⟨⟨⟨⟨⟨⟨⟨h1, h2⟩, h3⟩, h4⟩, h5⟩, h6⟩, h7⟩, h8⟩ := h
          obtain ⟨rfl, a1, a2, a3⟩ := blt_ok x h1
          refine convF (j_isaT (ns := [m, m2]) (by simp [e1, e2]) (by simp) (show 2 ≤ lim by decide) a1 a3 ?_ ?_ (ih.e x h8) (star_cons h7))
          · intro n hn
            rcases List.mem_cons.mp hn with rfl | hn
            · exact ⟨(gl_ok x h5).1, x.blt _ (List.contains_iff_mem.mp h3)⟩
            · rcases List.mem_cons.mp hn with rfl | hn
              · exact ⟨(gl_ok x h6).1, x.blt _ (List.contains_iff_mem.mp h4)⟩
              · cases hn
          · exact h2
        · cases h
      · cases h
    · cases h
  | comp kk its p cs e =>
    simp only at h
    split at h
    · obtain ⟨q1, q2, own, q3, q4, q5, q6, q7⟩ := ih.c x h
      exact convF (j_comp x.calm x.nd q1 q3 q4 q5 q6 q7 (fold_no q2))
    · cases h
  | dix y kvs a =>
    simp only at h
    split at h
    · simp only [Bool.and_eq_true, decide_eq_true_eq] at h
      obtain ⟨⟨⟨⟨⟨rfl, h1⟩, h2⟩, h3⟩, h4⟩, h5⟩ := h
      obtain ⟨h6, h7⟩ := gl_ok x h1
      exact conv (a := .s) (j_dix (x.dxs _ (any_dx h4)) h6 h7 (pix_ok h3) (ih.e x h5)) h2
    · cases h
  | _ => cases h
theorem sound : ∀ n : Nat, Snd g I sg cf n
  | 0 => ⟨fun _ h => (by cases h), fun _ h => (by cases h), fun _ h => (by cases h), fun _ h => (by cases h), fun _ h => (by cases h), fun _ h => (by cases h), fun _ h => (by cases h), fun _ h => (by cases h), fun _ h => (by cases h), fun _ h => (by cases h)⟩
  | n + 1 =>
    have ih := sound n
    ⟨snd_e ih, snd_a ih, snd_k ih, snd_d ih, snd_an ih, snd_o ih, snd_t ih, snd_ta ih, snd_i ih, snd_c ih⟩
end
end Pi

end
section
set_option linter.all false
set_option maxRecDepth 100000
/-! PiO: statements and defs. -/
namespace Pi
open PySem PySem.Spec PyProof.Rows L2
section
variable {g : Gt} {I : XI} {sg : Sig} {cf : String → List Val → Store → Res Val}
theorem sub_ok {a b : List Nat} (h : subO a b = true) : ∀ i ∈ a, i ∈ b := by
  intro i hi
  unfold subO at h
  rw [List.all_eq_true] at h
  exact List.contains_iff_mem.mp (h i hi)
theorem inter_l {a b : List Nat} : ∀ i ∈ interO a b, i ∈ a := fun i h => (List.mem_filter.mp h).1
theorem inter_r {a b : List Nat} : ∀ i ∈ interO a b, i ∈ b := fun i h => List.contains_iff_mem.mp (List.mem_filter.mp h).2
theorem fix_ok {f : List Nat → RO} : ∀ {k : Nat} {O O1 : List Nat}, fixO f k O = some O1 → (∀ i ∈ O1, i ∈ O) ∧ (f O1 = some none ∨ ∃ r, f O1 = some (some r) ∧ ∀ i ∈ O1, i ∈ r)
  | 0, _, _, h => by cases h
  | k + 1, O, O1, h => by
    unfold fixO at h
    cases e : f O with
    | none => rw [e] at h; cases h
    | some q =>
      rw [e] at h
      cases q with
      | none =>
        cases h
        exact ⟨fun _ z => z, .inl e⟩
      | some r =>
        simp only at h
        split at h
        · rename_i hs
          cases h
          exact ⟨fun _ z => z, .inr ⟨r, e, sub_ok hs⟩⟩
        · obtain ⟨h1, h2⟩ := fix_ok h
          exact ⟨fun i hi => inter_l i (h1 i hi), h2⟩
section
variable {c : Ct} {X : Cx} {E : XK}
theorem bkind (x : XOk g c X I sg (fun _ => E) cf) : X.env.blockKind = .function := by
  unfold Env.blockKind
  rw [x.kd]
  rfl
theorem names_eq (x : XOk g c X I sg (fun _ => E) cf) (line : Nat) (ts : List Expr) : (ts.filterMap fun
    | .Name id pos => if X.env.kindOf id == some .local && pos.line == line then some id else none
    | _ => none) = namesL c line ts := by
  unfold namesL
  congr 1
  funext e
  cases e <;> first | rfl | skip
  show (if X.env.scope.names.lookup _ == some .local && _ then _ else _) = _
  rw [x.sc]
theorem swN_ok (x : XOk g c X I sg (fun _ => E) cf) {tg ee : Expr} (h : swN c tg ee = true) : swappedStores [tg] ee X.env = pure none := by
  cases tg <;> try (cases h; done)
  rename_i ts k p
  cases ee <;> try rfl
  rename_i vs k2 p2
  unfold swappedStores
  simp only [bkind x]
  unfold swN at h
  generalize hN : List.filterMap _ ts = N
  have e : namesL c (lineOf ts) ts = N := (names_eq x _ ts).symm.trans hN
  simp only [e, Bool.or_eq_true] at h
  by_cases h1 : (!(ts.length == 2 || ts.length == 3) || vs.length != ts.length || ScopeKind.function != ScopeKind.function) = true
  · exact if_pos h1
  · refine (if_neg h1).trans ?_
    by_cases h2 : (vs.any fun x => match x with | .Starred _ _ => true | _ => false) = true
    · exact if_pos h2
    · refine (if_neg h2).trans ?_
      by_cases h3 : (N.length != ts.length || N.eraseDups.length != N.length) = true
      · exact if_pos h3
      · refine (if_neg h3).trans ?_
        by_cases h4 : vs.all (foldedForSure 8) = true
        · exact if_pos h4
        · exfalso
          simp only [Bool.or_eq_true, not_or] at h1 h3
          rcases h with ((h | h) | h) | h
          · rcases h with h | h
            · exact h1.1.1 h
            · exact h1.1.2 h
          · exact h2 h
          · rcases h with h | h
            · exact h3.1 h
            · exact h3.2 h
          · exact h4 h
theorem swS_ok (x : XOk g c X I sg (fun _ => E) cf) {ts vs : List Expr} {k k2 : Nat} {p p2 : Pos} {xs : List Str} (h : swS c ts vs xs = true) : swappedStores [.Tuple ts k p] (.Tuple vs k2 p2) X.env = pure (some xs) := by
  unfold swappedStores
  simp only [bkind x]
  unfold swS at h
  generalize hN : List.filterMap _ ts = N
  have e : namesL c (lineOf ts) ts = N := (names_eq x _ ts).symm.trans hN
  simp only [e, Bool.and_eq_true, decide_eq_true_eq, Bool.not_eq_true'] at h
  obtain ⟨⟨⟨⟨⟨⟨h1, h2⟩, h3⟩, rfl⟩, h4⟩, h5⟩, h6⟩ := h
  refine (if_neg ?_).trans ((if_neg ?_).trans ((if_neg ?_).trans ((if_neg ?_).trans (if_neg ?_))))
  · rw [h1, h2]
    decide
  · exact fun z => Bool.noConfusion (z.symm.trans h3)
  · rw [h4]
    decide
  · rw [h5]
    decide
  · rw [h6]
    decide
theorem lc_false (x : XOk g c X I sg (fun _ => E) cf) {y : Str} {py : Pos} {ee : Expr} {l : Nat} (h : lcC c y py ee = some false) : swapsWith ee (some (.Name y py)) l X.env = pure false := by
  cases ee <;> try rfl
  · rename_i elt gs scope pos
    unfold lcC swT at h
    unfold swapsWith
    have e : X.env.kindOf y = c.sc.names.lookup y := by
      show X.env.scope.names.lookup y = _
      rw [x.sc]
    simp only [bkind x, e, Expr.pos]
    have h := Option.some.inj h
    congr 1
    rw [← h]
    congr 2
    cases c.sc.names.lookup y with
    | none => rfl
    | some q => cases q <;> rfl
  · cases h
  · cases h
theorem lc_true (x : XOk g c X I sg (fun _ => E) cf) {y : Str} {py pos : Pos} {elt : Expr} {gs : List Comprehension} {scope : Scope} {l : Nat} (h : lcC c y py (.ListComp elt gs scope pos) = some true) :
    swapsWith (.ListComp elt gs scope pos) (some (.Name y py)) l X.env = pure true ∧ X.env.scope.names.lookup y = some .local := by
  unfold lcC swT at h
  have h := Option.some.inj h
  simp only [Bool.and_eq_true, decide_eq_true_eq, Bool.not_eq_true'] at h
  rw [← x.sc] at h
  exact ⟨sw_true x.kd h.1.1 h.1.2 h.2, h.1.1⟩
theorem lc_tup {tg ee : Expr} (h : swN c tg ee = true) {l : Nat} : swapsWithSole [tg] ee l X.env = pure false ∧ (assignEach [tg] X.env).map (·.2) = [assign tg X.env] := by
  cases tg <;> try (cases h; done)
  refine ⟨?_, rfl⟩
  cases ee <;> rfl
theorem drop_false {ee : Expr} (h : isCmp ee = false) {l : Nat} : swapsWith ee none l X.env = pure false := by
  cases ee <;> first | rfl | (cases h; done)
theorem m_sound {n : Nat} (x : XOk g c X I sg (fun _ => E) cf) {O : List Nat} : ∀ {is : List (Nat × Bool)} {es : List IE} {ees : List Expr}, chkM n g c O is es ees = true → JA X I (fun _ => E) O (kM I X.K (is.map (·.2))) (fun ρ S => evEs sg cf ρ es S) ees
  | [], [], [], _ => ja_nilM
  | [], [], _ :: _, h => by cases h
  | [], _ :: _, _, h => by cases h
  | _ :: _, [], _, h => by cases h
  | _ :: _, _ :: _, [], h => by cases h
  | (i, m) :: is, e :: es, ee :: ees, h => by
    unfold chkM at h
    rw [Bool.and_eq_true, Bool.and_eq_true] at h
    have q := (sound (sg := sg) n).e x h.1.2
    refine ja_consM ?_ (m_sound x h.2) (star_cons h.1.1)
    cases m with
    | true => exact q
    | false => exact q
theorem nm_ok (x : XOk g c X I sg (fun _ => E) cf) : ∀ {is : List (Nat × Bool)} {ts : List Expr}, namesC c is ts = true → NmOk X is ts
  | [], [], _ => trivial
  | [], _ :: _, h => by cases h
  | _ :: _, [], h => by cases h
  | (i, m) :: is, t :: ts, h => by
    cases t <;> try (cases h; done)
    rename_i y p
    have h : (tgtC c i y && namesC c is ts) = true := h
    rw [Bool.and_eq_true] at h
    obtain ⟨h1, h2, h3⟩ := tgt_ok x h.1
    exact ⟨⟨y, p, rfl, h1, h2, h3⟩, nm_ok x h.2⟩
/-! ### statements -/
section
variable {W0 : Wd} {H0 : Hp} {fr : Bool}
/-- the block of a def itself -/
structure StOk (X : Cx) : Prop where
  hs : X.stack = X.env :: X.outer
  hf : X.env.frame = some X.env.locals
  hx : X.ex = []
structure SndS (g : Gt) (I : XI) (sg : Sig) (cf : String → List Val → Store → Res Val) (W0 : Wd) (H0 : Hp) (fr : Bool) (n : Nat) : Prop where
  s : ∀ {c : Ct} {X : Cx} {E : XK} {OL O : List Nat} {s : IS} {st : Stmt} {r : Option (List Nat)}, XOk g c X I sg (fun _ => E) cf → StOk X → chkS n g c fr OL O s st = some r → JS X I E W0 H0 fr OL O r (fun ρ S => evS sg cf s ρ S) st
  ss : ∀ {c : Ct} {X : Cx} {E : XK} {OL O : List Nat} {s : List IS} {st : List Stmt} {r : Option (List Nat)}, XOk g c X I sg (fun _ => E) cf → StOk X → chkSs n g c fr OL O s st = some r → JSs X I E W0 H0 fr OL O r (fun ρ S => evSs sg cf s ρ S) st
theorem snd_ss {n : Nat} (ih : SndS g I sg cf W0 H0 fr n) {c : Ct} {X : Cx} {E : XK} {OL O : List Nat} {s : List IS} {st : List Stmt} {r : Option (List Nat)} (x : XOk g c X I sg (fun _ => E) cf) (so : StOk X) (h : chkSs (n + 1) g c fr OL O s st = some r) :
    JSs X I E W0 H0 fr OL O r (fun ρ S => evSs sg cf s ρ S) st := by
  unfold chkSs at h
  split at h
  · split at h
    · cases h
      exact js_nil
    · cases h
  · exact js_share (ih.ss x so h)
  · split at h
    · cases h
    · split at h
      · cases h
      · rename_i e
        cases h
        exact js_last (ih.s x so e)
      · rename_i e
        exact js_cons (ih.s x so e) (ih.ss x so h)
theorem join_ok {a b : RO} {r : Option (List Nat)} (h : joinO a b = some r) : ∃ p q, a = some p ∧ b = some q ∧ (p = none ∨ ∃ O1, p = some O1 ∧ ∃ O2, r = some O2 ∧ ∀ i ∈ O2, i ∈ O1) ∧ (q = none ∨ ∃ O1, q = some O1 ∧ ∃ O2, r = some O2 ∧ ∀ i ∈ O2, i ∈ O1) := by
  cases a with
  | none => cases b with
    | none => cases h
    | some b => cases b <;> cases h
  | some a =>
    cases b with
    | none => cases a <;> cases h
    | some b =>
      refine ⟨a, b, rfl, rfl, ?_⟩
      cases a with
      | none =>
        have e : b = r := Option.some.inj h
        subst e
        refine ⟨.inl rfl, ?_⟩
        cases b with
        | none => exact .inl rfl
        | some b => exact .inr ⟨b, rfl, b, rfl, fun _ z => z⟩
      | some a =>
        cases b with
        | none =>
          have e : some a = r := Option.some.inj h
          subst e
          exact ⟨.inr ⟨a, rfl, a, rfl, fun _ z => z⟩, .inl rfl⟩
        | some b =>
          have e : some (interO a b) = r := Option.some.inj h
          subst e
          exact ⟨.inr ⟨a, rfl, _, rfl, inter_l⟩, .inr ⟨b, rfl, _, rfl, inter_r⟩⟩
theorem to_any {X : Cx} {E : XK} {OL O : List Nat} {m : Env → Store → Out} {st : List Stmt} {p r : Option (List Nat)} (h : JSs X I E W0 H0 fr OL O p m st) (z : p = none ∨ ∃ O1, p = some O1 ∧ ∃ O2, r = some O2 ∧ ∀ i ∈ O2, i ∈ O1) : JSs X I E W0 H0 fr OL O r m st := by
  rcases z with rfl | ⟨O1, rfl, O2, rfl, z⟩
  · exact h.never
  · exact h.to z
theorem iop_mulA {X : Cx} : OpR X (inplaceOp .Mult) (rI CMulA fun i j => .int (i * j)) := opI fun _ _ _ _ _ _ _ hc q => imul_int q hc.ok
theorem aug_ok (X : Cx) (I : XI) (o : Bop) (h : augB o = true) : ∃ r, PIp X (bopO o) r ∧ R2Ok I X.K r (augV o) := by
  cases o <;> try (cases h; done)
  · refine ⟨_, ip_add, fun W H S x y z xv yv Q w s k1 k2 e d => ?_⟩
    cases x <;> try (cases e; done)
    cases y <;> try (cases e; done)
    rename_i i j
    cases e
    cases k1
    cases k2
    exact ⟨i, j, rfl, rfl, d W H _ .refl .refl w s (rfl : Rp I X.K W H (.int (i + j)) (.int (i + j)))⟩
  · refine ⟨_, ip_sub, fun W H S x y z xv yv Q w s k1 k2 e d => ?_⟩
    cases x <;> try (cases e; done)
    cases y <;> try (cases e; done)
    rename_i i j
    cases e
    cases k1
    cases k2
    exact ⟨i, j, rfl, rfl, d W H _ .refl .refl w s (rfl : Rp I X.K W H (.int (i - j)) (.int (i - j)))⟩
  · refine ⟨rI CMulA fun i j => .int (i * j), fun pins s σ H x y v u Q I' rx ry h => ?_, fun W H S x y z xv yv Q w s k1 k2 e d => ?_⟩
    · exact iop_mulA pins s σ H x y v u Q I' rx ry h
    · cases x <;> try (cases e; done)
      cases y <;> try (cases e; done)
      rename_i i j
      cases k1
      cases k2
      have e : (if fitMul i j then some (Val.int (i * j)) else none) = some z := e
      split at e
      · rename_i c
        cases e
        exact ⟨i, j, rfl, rfl, c, d W H _ .refl .refl w s (rfl : Rp I X.K W H (.int (i * j)) (.int (i * j)))⟩
      · cases e

theorem snd_s {n : Nat} (ih : SndS g I sg cf W0 H0 fr n) {c : Ct} {X : Cx} {E : XK} {OL O : List Nat} {s : IS} {st : Stmt} {r : Option (List Nat)} (x : XOk g c X I sg (fun _ => E) cf) (so : StOk X) (h : chkS (n + 1) g c fr OL O s st = some r) :
    JS X I E W0 H0 fr OL O r (fun ρ S => evS sg cf s ρ S) st := by
  have sd := sound (g := g) (I := I) (sg := sg) (cf := cf) n
  unfold chkS at h
  cases s with
  | pass =>
    simp only at h
    split at h
    · cases h
      exact js_pass
    · cases h
  | brk =>
    simp only at h
    split at h
    · split at h
      · rename_i e
        cases h
        exact js_brk (sub_ok e)
      · cases h
    · cases h
  | cnt =>
    simp only at h
    split at h
    · split at h
      · rename_i e
        cases h
        exact js_cnt (sub_ok e)
      · cases h
    · cases h
  | expr e =>
    simp only at h
    split at h
    · split at h
      · rename_i e
        cases h
        rw [Bool.and_eq_true, Bool.not_eq_true'] at e
        exact js_expr (sd.e x e.2) (drop_false e.1)
      · cases h
    · cases h
  | ret e =>
    simp only at h
    split at h
    · split at h
      · rename_i hf
        split at h
        · rename_i e
          cases h
          exact js_retF hf (sd.e x e)
        · split at h
          · split at h
            · rename_i e
              cases h
              rw [Bool.and_eq_true] at e
              obtain ⟨h1, h2, h3, h4⟩ := var_ok x e.2
              exact js_retO hf (List.contains_iff_mem.mp e.1) h1 h2 h3 h4
            · cases h
          · cases h
      · rename_i hf
        split at h
        · rename_i e
          cases h
          exact js_retS (by simpa using hf) (sd.e x e)
        · cases h
    · cases h
  | retN =>
    simp only at h
    split at h
    · cases h
      exact js_retN
    · cases h
  | asg p e =>
    simp only at h
    split at h
    · split at h
      · split at h
        · rename_i e1
          obtain ⟨h1, h2, h3⟩ := tgt_ok x e1
          split at h
          · rename_i e2
            split at h
            · rename_i e3
              cases h
              exact js_asg x.nd h1 h2 h3 (lc_false x e2) (sd.e x e3)
            · cases h
          · rename_i e2
            split at h
            · split at h
              · rename_i e3
                cases h
                obtain ⟨q1, q2, own, q3, q4, q5, q6, q7⟩ := sd.c x e3
                obtain ⟨l1, l2⟩ := lc_true (l := 0) x e2
                exact js_asgC x.calm x.nd h1 l2 (lc_true x e2).1 q1 q3 q4 q5 q6 q7 (fold_no q2)
              · cases h
            · cases h
          · cases h
        · cases h
      · split at h
        · rename_i e1
          cases h
          simp only [Bool.and_eq_true] at e1
          exact js_asgP ((ps_sound n x).1 e1.1.2 O) (lc_tup e1.1.1).1 (swN_ok x e1.1.1) (lc_tup (l := 0) e1.1.1).2 (sd.e x e1.2)
        · cases h
    · cases h
  | own i e =>
    simp only at h
    split at h
    · split at h
      · rename_i e1
        obtain ⟨h1, h2, h3⟩ := tgt_ok x e1
        split at h
        · rename_i e2
          split at h
          · rename_i e3
            cases h
            exact js_own x.nd h1 h2 h3 (lc_false x e2) (sd.e x e3)
          · cases h
        · rename_i e2
          split at h
          · split at h
            · rename_i e3
              cases h
              obtain ⟨q1, q2, own, q3, q4, q5, q6, q7⟩ := sd.c x e3
              obtain ⟨l1, l2⟩ := lc_true (l := 0) x e2
              exact js_ownC x.calm x.nd h1 l2 (lc_true x e2).1 q1 q3 q4 q5 q6 q7 (fold_no q2)
            · cases h
          · cases h
        · cases h
      · cases h
    · cases h
  | par is es =>
    simp only at h
    split at h
    · split at h
      · rename_i e0
        split at h
        · rename_i e1
          cases h
          simp only [Bool.and_eq_true, decide_eq_true_eq] at e1
          exact js_parG x.calm x.nd e1.1.2 (nm_ok x e1.1.1.1) (m_sound (sg := sg) x e1.1.1.2) (swN_ok x e0) e1.2
        · cases h
      · split at h
        · split at h
          · rename_i e1
            cases h
            simp only [Bool.and_eq_true, decide_eq_true_eq] at e1
            obtain ⟨⟨⟨⟨⟨⟨a1, a2⟩, a3⟩, a4⟩, a5⟩, a6⟩, a7⟩ := e1
            rw [← x.sc] at a4 a5
            have mm := m_sound (sg := sg) x a6
            match es, mm, a6 with
            | [e1, e2], mm, a6 => exact js_par2 x.calm x.nd (tgt_ok x a1).1 (tgt_ok x a2).1 a3 a4 a5 mm (swS_ok x a7)
            | [], _, a6 => cases a6
            | [_], _, a6 => simp [chkM] at a6
            | _ :: _ :: _ :: _, _, a6 => simp [chkM] at a6
          · cases h
        · split at h
          · rename_i e1
            cases h
            simp only [Bool.and_eq_true, decide_eq_true_eq] at e1
            obtain ⟨⟨⟨⟨⟨⟨⟨⟨⟨⟨a1, a2⟩, b2⟩, a3⟩, b3⟩, c3⟩, a4⟩, a5⟩, b5⟩, a6⟩, a7⟩ := e1
            rw [← x.sc] at a4 a5 b5
            have mm := m_sound (sg := sg) x a6
            match es, mm, a6 with
            | [e1, e2, e3], mm, a6 => exact js_par3 x.calm x.nd (tgt_ok x a1).1 (tgt_ok x a2).1 (tgt_ok x b2).1 a3 b3 c3 a4 a5 b5 mm (swS_ok x a7)
            | [], _, a6 => cases a6
            | [_], _, a6 => simp [chkM] at a6
            | [_, _], _, a6 => simp [chkM] at a6
            | _ :: _ :: _ :: _ :: _, _, a6 => simp [chkM] at a6
          · cases h
        · cases h
    · cases h
  | setL i k e =>
    simp only at h
    split at h
    · split at h
      · rename_i e1
        cases h
        simp only [Bool.and_eq_true] at e1
        obtain ⟨h1, h2, h3, h4⟩ := var_ok x e1.1.1.1.2
        exact js_setL (List.contains_iff_mem.mp e1.1.1.1.1) h1 h2 h3 h4 (sl_no e1.1.1.2) (sd.e x e1.1.2) (sd.e x e1.2)
      · cases h
    · cases h
  | setB b k e =>
    simp only at h
    split at h
    · split at h
      · rename_i e1
        cases h
        simp only [Bool.and_eq_true] at e1
        exact js_setB (sl_no e1.1.1.1) (sd.e x e1.1.1.2) (sd.e x e1.1.2) (sd.e x e1.2)
      · cases h
    · cases h
  | app i e =>
    simp only at h
    split at h
    · split at h
      · rename_i e1
        cases h
        simp only [Bool.and_eq_true, decide_eq_true_eq] at e1
        obtain ⟨⟨⟨⟨⟨rfl, a1⟩, a2⟩, a3⟩, a4⟩, a5⟩ := e1
        obtain ⟨h1, h2, h3, h4⟩ := var_ok x a2
        have st := star_cons (es := []) (env := X.env) a4
        exact js_app (List.contains_iff_mem.mp a1) h1 h2 h3 h4 a3 (sd.e x a5) st (by rw [st]; rfl)
      · cases h
    · cases h
  | ins i k e =>
    simp only at h
    split at h
    · split at h
      · rename_i e1
        cases h
        simp only [Bool.and_eq_true, decide_eq_true_eq] at e1
        obtain ⟨⟨⟨⟨⟨⟨⟨rfl, a1⟩, a2⟩, a3⟩, a4⟩, a4'⟩, a5⟩, a6⟩ := e1
        obtain ⟨h1, h2, h3, h4⟩ := var_ok x a2
        have st2 := star_cons (es := []) (env := X.env) a4'
        have st := (star_cons (env := X.env) a4).trans (congrArg (List.cons _) st2)
        exact js_ins (List.contains_iff_mem.mp a1) h1 h2 h3 h4 a3 (sd.e x a5) (sd.e x a6) st st2 (by rw [st]; rfl)
      · cases h
    · cases h
  | set2 i k1 k2 e1 e2 =>
    simp only at h
    split at h
    · split at h
      · rename_i e1
        cases h
        simp only [Bool.and_eq_true, decide_eq_true_eq] at e1
        obtain ⟨⟨⟨⟨⟨⟨⟨rfl, a1⟩, a2⟩, a3⟩, a3'⟩, a4⟩, a5⟩, a6⟩ := e1
        obtain ⟨h1, h2, h3, h4⟩ := var_ok x a2
        exact js_set2 x.calm (List.contains_iff_mem.mp a1) h1 h2 h3 h4 (sl_no a3) (sl_no a3') (sd.e x a4) (sd.e x a5) (sd.e x a6) sw_subs
      · cases h
    · cases h
  | ite t a b =>
    simp only at h
    split at h
    · split at h
      · rename_i e1
        obtain ⟨p, q, h1, h2, h3, h4⟩ := join_ok h
        exact js_ite (sd.t x e1) (to_any (ih.ss x so h1) h3) (to_any (ih.ss x so h2) h4)
      · cases h
    · cases h
  | forr k its p b =>
    simp only at h
    split at h
    · split at h
      · rename_i e1
        rw [Bool.and_eq_true] at e1
        obtain ⟨i1, i2⟩ := sd.i x e1.1
        cases e2 : fixO (fun O1 => chkSs n g c fr O1 (less O1 p.vars) b _) 4 O with
        | none => rw [e2] at h; cases h
        | some O1 =>
          rw [e2] at h
          cases h
          obtain ⟨f1, f2⟩ := fix_ok e2
          refine js_for x.po x.calm (fold_no i2) f1 i1 ((ps_sound n x).1 e1.2 O1) ?_
          rcases f2 with f2 | ⟨r, f2, f3⟩
          · exact (ih.ss x so f2).never
          · exact (ih.ss x so f2).to f3
      · cases h
    · cases h
  | whil t b =>
    simp only at h
    split at h
    · split at h
      · rename_i e2
        split at h
        · rename_i e1
          cases h
          obtain ⟨f1, f2⟩ := fix_ok e2
          refine js_while x.po f1 (sd.t x e1) ?_
          rcases f2 with f2 | ⟨r, f2, f3⟩
          · exact (ih.ss x so f2).never
          · exact (ih.ss x so f2).to f3
        · cases h
      · cases h
    · cases h
  | raise e =>
    cases e <;> try (cases h; done)
    rename_i cn e
    simp only at h
    split at h
    · split at h
      · rename_i e1
        cases h
        simp only [Bool.and_eq_true, decide_eq_true_eq] at e1
        obtain ⟨⟨⟨⟨rfl, a1⟩, a2⟩, a3⟩, a4⟩ := e1
        obtain ⟨b1, b2⟩ := gl_ok x a1
        exact js_raise x.calm x.tk (x.xm _ a2) b1 b2 x.pf (sd.e x a4) (star_cons (es := []) a3)
      · cases h
    · cases h
  | tryx i e cn nn j =>
    simp only at h
    split at h
    · split at h
      · rename_i e1
        cases h
        simp only [Bool.and_eq_true, decide_eq_true_eq] at e1
        obtain ⟨⟨⟨⟨⟨⟨⟨⟨⟨⟨rfl, a1⟩, a2⟩, a3⟩, a4⟩, a5⟩, a6⟩, a7⟩, a8⟩, rfl⟩, a9⟩ := e1
        obtain ⟨b1, b2⟩ := gl_ok x a1
        obtain ⟨c1, c2, c3⟩ := tgt_ok x a3
        obtain ⟨d1, d2, d3⟩ := tgt_ok x a5
        unfold nmC at a8
        rw [Bool.and_eq_true, Bool.not_eq_true', Bool.not_eq_true'] at a8
        have a7' := a7
        rw [← x.sc] at a7'
        have kn : X.env.kindOf ‹Str› = some .local := a7'
        exact js_tryx so.hs so.hf so.hx x.nd c1 c2 c3 (lc_false x (eq_of_beq a4)) (by rw [x.N]; exact a6) kn a7' a8.1 a8.2 d1 d2 d3 (x.xn _ (List.contains_iff_mem.mp a2)) b1 b2 x.tk fun W pn xe t po => sd.e (x.tr W pn xe t po) a9
      · cases h
    · cases h
  | aug i o e =>
    simp only at h
    split at h
    · split at h
      · rename_i e1
        cases h
        simp only [Bool.and_eq_true] at e1
        obtain ⟨⟨⟨⟨a1, a2⟩, a3⟩, a4⟩, a5⟩ := e1
        obtain ⟨c1, c2, c3⟩ := tgt_ok x a2
        rw [op_ok a1]
        obtain ⟨r, p1, p2⟩ := aug_ok X I o a4
        exact js_aug (by simpa using a3) x.nd c1 c2 c3 p1 p2 (sd.e x a5)
      · cases h
    · cases h
  | pop i k =>
    simp only at h
    split at h
    · split at h
      · rename_i e1
        simp only [Bool.and_eq_true, decide_eq_true_eq] at e1
        obtain ⟨⟨⟨rfl, a2⟩, a3⟩, a4⟩ := e1
        obtain ⟨h1, h2, h3, h4⟩ := var_ok x a3
        split at h
        · cases h
          exact js_pop0 (List.contains_iff_mem.mp a2) h1 h2 h3 h4 a4
        · split at h
          · rename_i e2
            cases h
            rw [Bool.and_eq_true] at e2
            have st := star_cons (es := []) (env := X.env) e2.1
            exact js_popK (List.contains_iff_mem.mp a2) h1 h2 h3 h4 a4 (sd.e x e2.2) st (by rw [st]; rfl)
          · cases h
        · cases h
      · cases h
    · cases h
  | popTo j i k =>
    simp only at h
    split at h
    · split at h
      · rename_i e1
        simp only [Bool.and_eq_true, decide_eq_true_eq] at e1
        obtain ⟨⟨⟨⟨⟨rfl, a1⟩, a2⟩, a3⟩, a5⟩, a4⟩ := e1
        obtain ⟨h1, h2, h3, h4⟩ := var_ok x a3
        obtain ⟨c1, c2, c3⟩ := tgt_ok x a5
        split at h
        · cases h
          exact js_popTo0 a1 (List.contains_iff_mem.mp a2) h1 h2 h3 h4 x.nd c1 c2 c3 a4
        · split at h
          · rename_i e2
            cases h
            rw [Bool.and_eq_true] at e2
            have st := star_cons (es := []) (env := X.env) e2.1
            exact js_popToK (List.contains_iff_mem.mp a2) h1 h2 h3 h4 x.nd c1 c2 c3 a4 (sd.e x e2.2) st (by rw [st]; rfl)
          · cases h
        · cases h
      · cases h
    · cases h
  | _ => cases h
theorem soundS : ∀ n : Nat, SndS g I sg cf W0 H0 fr n
  | 0 => ⟨fun _ _ h => (by cases h), fun _ _ h => (by cases h)⟩
  | n + 1 =>
    have ih := soundS n
    ⟨snd_s ih, snd_ss ih⟩
end
end
end
end Pi

end
section
set_option linter.all false
set_option maxRecDepth 100000
/-! PiP: every def at every depth. -/
namespace Pi
open PySem PySem.Spec PyProof.Rows L2
section
variable {P : Program} {w : World} {K : PySem.W.Frag} {mg : Str → Option Value} {base : Heap} {I : XI} {g : Gt} {sg : Sig} {Φ : Tab}
/-- a def that was checked: it stands at a, its parameters are ps -/
def DefAt (K : PySem.W.Frag) (mg : Str → Option Value) (g : Gt) (Φ : Tab) (f : String) (np : Nat) (fr : Bool) (a : Addr) (fd : FuncData) (ps : List Str) : Prop :=
  ∃ (qual : Str) (params : Arguments) (body : List Stmt) (scope : Scope) (dvs : List V) (kws : List (Str × V)) (N : List Str) (fn : Fn) (n : Nat) (r : Option (List Nat)),
    FunD K (f : Str) qual params body scope dvs kws a fd ∧ mg (f : Str) = some (.ref a) ∧ Binds K fd ps [] ∧ FnScope N ps scope ∧ ps.length = np ∧ Φ f = some fn ∧ fn.np = np ∧ fn.nl = N.length ∧
      chkSs n g ⟨N, scope, fun _ => true⟩ fr [] [] fn.body body = some r
/-- what the top holds -/
structure GOk (w : World) (K : PySem.W.Frag) (mg : Str → Option Value) (I : XI) (g : Gt) (Φ : Tab) : Prop where
  fns : ∀ f m fr, g.fns.lookup f = some (m, fr) → ∃ a fd ps, DefAt K mg g Φ f m fr a fd ps
  gvs : ∀ q ∈ g.gvs, GvOk I K mg (q.1 : Str) q.2
  dxs : ∀ q ∈ g.dxs, ∃ p : Addr, mg (q.1 : Str) = some (.ref p) ∧ ∀ y v, q.2.lookup y = some v → ∃ u, KDct K w p y u ∧ ∀ H R μ, RepV I K H R μ v u
  blt : ∀ n ∈ bltN, mg (n : Str) = none
  fks : ∀ q ∈ g.fks, ∀ m fr, g.fns.lookup q.1 = some (m, fr) → ∃ a fd ps, DefAt K mg g Φ q.1 m fr a fd ps ∧ ∃ gg gV, KBn K fd ps q.2.1 q.2.2.1 gg gV ∧ KwRep q.2.1 q.2.2.1.length q.2.2.2 m gV
  xh : XHeld K I g.sg
  xm : ∀ c, (g.xcs.lookup c).isSome = true → ∃ (C fI : Addr) (f B initId : String) (fd : FuncData), XCls K C fI (f : Str) B initId ∧ I.ce c = some C ∧ I.xf c = some f ∧ g.sg.eb c = some B ∧ g.sg.xf c = some f ∧ mg (c : Str) = some (.ref C) ∧
    (∀ (P : Program) (base : Heap), FnOk P w K mg base (L2.CX P w) 1 fI fd ["self", (f : Str)] (spI C (f : Str))) ∧ Binds K fd ["self", (f : Str)] [] ∧ ∀ (s : Shared) (self u : Value), BindsTo s fd ⟨[self], [((f : Str), u)]⟩ [("self", self), ((f : Str), u)]
  xn : ∀ n ∈ g.xns, NAt K mg I g.sg n
theorem start_rep {W : Wd} {H : Hp} {N : List Str} {ps : List Val} {vs : List V} (r : Rps I K W H ps vs) : EnvRep I K W H [] (ps.map some ++ List.replicate (N.length - ps.length) none) (L2.start N vs) := by
  have hl := RepVs.length r
  refine ⟨by unfold L2.start; simp [hl], fun i p e _ => ?_, fun i p _ h => (by cases h), fun i j a h => (by cases h)⟩
  unfold L2.start
  by_cases hi : i < ps.length
  · rw [List.getElem?_append_left (by simpa using hi), List.getElem?_map] at e
    cases e1 : ps[i]? with
    | none => rw [e1] at e; cases e
    | some q =>
      rw [e1] at e
      cases e
      obtain ⟨v, h1, h2⟩ := RepVs.get r e1
      refine ⟨v, ?_, h2⟩
      rw [List.getElem?_append_left (by simpa [← hl] using hi), List.getElem?_map, h1]
      rfl
  · rw [List.getElem?_append_right (by simpa using hi), List.getElem?_replicate] at e
    split at e <;> cases e
theorem call_at {E : XK} {W : Wd} {H : Hp} {S : Store} {f : String} {ps : List Val} {fn : Fn} {d : Nat} {fr : Bool} {Q : VK} {r : Option (List Nat)} (hf : Φ f = some fn) (hl : ps.length = fn.np) (w : WOk W H) (s : StRep I K W H S)
    (h : At I K E (kFS I K fr) W H (callF sg Φ (d + 1) f ps S) Q) :
    AtS I K E W H fr [] W H r { nx := fun _ H' => Q .non H', rt := Q } (evSs sg (callF sg Φ d) fn.body (ps.map some ++ List.replicate (fn.nl - fn.np) none) S) := by
  simp only [callF, hf, hl, if_true] at h
  cases e : evSs sg (callF sg Φ d) fn.body (ps.map some ++ List.replicate (fn.nl - fn.np) none) S with
  | nx ρ' S' =>
    rw [e] at h
    exact fun O2 _ W' H' σ' sr n => h W' H' .non ⟨sr.le, sr.kp, sr.sr.w, sr.sr.s⟩ (by cases fr <;> exact (rfl : V.non = V.non))
  | rt v S' => rw [e] at h; exact fun W' H' x n k => h W' H' x n k
  | ex x ρ' S' => rw [e] at h; exact fun W' H' cls dd n k => h W' H' cls dd n k
  | bk ρ' S' => rw [e] at h; exact h.elim
  | ct ρ' S' => rw [e] at h; exact h.elim
  | bad => rw [e] at h; exact h.elim
theorem spC_len {cf : String → List Val → Store → Res Val} {f : String} {n : Nat} {fr : Bool} {vs : List V} {H : Hp} {Q : VK} {E : XK} (h : spC I K cf f n fr vs H Q E) : vs.length = n := by
  obtain ⟨W, ps, S, h1, h2, h3, h4, _⟩ := h
  rw [← RepVs.length h3, h4]
/-- every def, at every depth -/
theorem fns_ok (G : GOk w K mg I g Φ) : ∀ (d : Nat) (f : String) (m : Nat) (fr : Bool) (a : Addr) (fd : FuncData) (ps : List Str), DefAt K mg g Φ f m fr a fd ps →
    FnG P w K mg base (L2.CX P w) (d + 2) a fd ps (spC I K (callF g.sg Φ d) f m fr) ∧ mg (f : Str) = some (.ref a) ∧ PySem.W.keepIn K (.ref a) = true ∧ Binds K fd ps []
  | 0, f, m, fr, a, fd, ps, h => by
    obtain ⟨qual, params, body, scope, dvs, kws, N, fn, n, r, F, hm, hb, S, hp, hf, h1, h2, hc⟩ := h
    refine ⟨⟨fun q => (spC_len q).trans hp.symm, fun A outer s H args us vs Q E hq hr e0 hb hv q => ?_⟩, hm, F.kp, hb⟩
    obtain ⟨_, _, _, _, _, _, _, q⟩ := q
    exact q.elim
  | d + 1, f, m, fr, a, fd, ps, h => by
    have ih := fns_ok G d
    obtain ⟨qual, params, body, scope, dvs, kws, N, fn, n, r, F, hm, hb, S, hp, hf, h1, h2, hc⟩ := h
    refine ⟨FunD.okG F S (fun q => (spC_len q).trans hp.symm) fun cdv A outer s H vs Q E hgu hr q => ?_, hm, F.kp, hb⟩
    obtain ⟨W, pv, St, hw, hs, hv, hl, q⟩ := q
    have x : XOk g ⟨N, scope, fun _ => true⟩ (cxOf (L2.CX P w) P w K mg base N qual scope a cdv A outer s H E) I g.sg (fun _ => E) (callF g.sg Φ d) := by
      refine ⟨rfl, rfl, rfl, S.nd, S.kind, rfl, ?_, hgu, passes_of rfl, takes_of rfl rfl rfl rfl, fun f' m' fr' h' => ?_, G.gvs, G.dxs, G.blt, fun q hq m' fr' h' => ?_, G.xh, fun c' h' => ?_, G.xn, fun c' B' f' h' => (by show (g.xcs.lookup c').map (·.2) = _; rw [h']; rfl)⟩
      · have := hr.un
        show (A.deeper (envOfC qual scope s.heap.objs.size a cdv)).units + 65 < cLine
        omega
      · obtain ⟨a', fd', ps', D'⟩ := G.fns f' m' fr' h'
        obtain ⟨F', hm', hk', hb'⟩ := ih f' m' fr' a' fd' ps' D'
        exact ⟨d + 2, a', fd', ps', F', ⟨hgu, hr⟩, hm', hk', hb'⟩
      · obtain ⟨a', fd', ps', D', gg, gV, hkb, hkr⟩ := G.fks q hq m' fr' h'
        obtain ⟨F', hm', hk', hb'⟩ := ih q.1 m' fr' a' fd' ps' D'
        exact ⟨m', d + 2, a', fd', ps', gg, gV, F', ⟨hgu, hr⟩, hm', hk', hkb, hkr⟩
      · obtain ⟨C, fI, f', B, initId, fd', z1, z2, z3, z4, z5, z6, z7, z8, z9⟩ := G.xm c' h'
        exact ⟨C, fI, f', B, initId, fd', 1, z1, z2, z3, z4, z5, z6, z7 P base, z8, hr.mono (by omega), z9⟩
    refine ⟨_, (soundS (sg := g.sg) (W0 := W) (H0 := H) (fr := fr) n).ss x ⟨rfl, rfl, rfl⟩ hc, W, pv.map some ++ List.replicate (N.length - pv.length) none, St, ⟨⟨fun _ z => z, fun _ z => z, fun _ z _ => z, fun _ _ z => z⟩, .refl, ⟨hw, hs, start_rep hv⟩, fun i b hi => (by cases hi)⟩, ?_⟩
    have z := call_at (r := r) hf (hl.trans h1.symm) hw hs q
    rw [h2, h1, ← hl] at z
    exact z
end
end Pi

end
section
set_option linter.all false
set_option maxRecDepth 100000
/-! PiQ: the head: what the top holds, by one check. -/
namespace Pi
open PySem PySem.Spec PyProof.Rows L2
/-! ### constants of the top -/
mutual
def valB (K : PySem.W.Frag) : Val → Value → Bool
  | .non, .none => true
  | .bl b, .bool c => b == c
  | .int i, .int j _ => decide (i = j)
  | .str x, .str y _ => decide (x = y) && decide (x.length ≤ lim) && PyData.strOk x
  | .tup l, .ref a => (match K.lookup a with
    | some ⟨.type c, _, .seq its _, _⟩ => decide (c = "tuple") && decide (its.size ≤ sizeLine) && valsB K l its.toList
    | _ => false)
  | _, _ => false
def valsB (K : PySem.W.Frag) : List Val → List Value → Bool
  | [], [] => true
  | v :: vs, u :: us => valB K v u && valsB K vs us
  | _, _ => false
end
mutual
theorem valB_ok {I : XI} {K : PySem.W.Frag} : ∀ {v : Val} {u : Value}, valB K v u = true → ∃ x : V, L2.RelV x u ∧ ∀ H R μ, RepV I K H R μ v x
  | .non, u, h => by
    cases u <;> try (cases h; done)
    exact ⟨.non, rfl, fun _ _ _ => rfl⟩
  | .bl b, u, h => by
    cases u <;> try (cases h; done)
    rename_i c
    have h : (b == c) = true := h
    rw [eq_of_beq h]
    exact ⟨.bl c, rfl, fun _ _ _ => rfl⟩
  | .int i, u, h => by
    cases u <;> try (cases h; done)
    rename_i j t
    have h : decide (i = j) = true := h
    rw [of_decide_eq_true h]
    exact ⟨.int j, ⟨t, rfl⟩, fun _ _ _ => rfl⟩
  | .str x, u, h => by
    cases u <;> try (cases h; done)
    rename_i y t
    have h : (decide (x = y) && decide (x.length ≤ lim) && PyData.strOk x) = true := h
    rw [Bool.and_eq_true, Bool.and_eq_true] at h
    obtain ⟨⟨h1, h2⟩, h3⟩ := h
    have e := of_decide_eq_true h1
    subst e
    exact ⟨.str x, ⟨t, rfl⟩, fun _ _ _ => ⟨rfl, of_decide_eq_true h2, h3⟩⟩
  | .tup l, u, h => by
    cases u <;> try (cases h; done)
    rename_i a
    have h : (match K.lookup a with
      | some ⟨.type c, _, .seq its _, _⟩ => decide (c = "tuple") && decide (its.size ≤ sizeLine) && valsB K l its.toList
      | _ => false) = true := h
    split at h
    · rename_i e
      rw [Bool.and_eq_true, Bool.and_eq_true] at h
      obtain ⟨⟨h1, h2⟩, h3⟩ := h
      obtain ⟨xs, q1, q2⟩ := valsB_ok (I := I) h3
      exact ⟨.ref a, rfl, fun H R μ => ⟨a, xs, rfl, .inr ⟨_, _, _, e, congrArg Value.type (of_decide_eq_true h1), rfl, of_decide_eq_true h2, q1⟩, q2 H R μ⟩⟩
    · cases h
  | .lst l, u, h => by cases u <;> cases h
  | .loc n, u, h => by cases u <;> cases h
  | .exn c y, u, h => by cases u <;> cases h
theorem valsB_ok {I : XI} {K : PySem.W.Frag} : ∀ {vs : List Val} {us : List Value}, valsB K vs us = true → ∃ xs : List V, Vals xs us ∧ ∀ H R μ, RepVs I K H R μ vs xs
  | [], [], _ => ⟨[], .nil, fun _ _ _ => rfl⟩
  | [], _ :: _, h => by cases h
  | _ :: _, [], h => by cases h
  | v :: vs, u :: us, h => by
    have h : (valB K v u && valsB K vs us) = true := h
    rw [Bool.and_eq_true] at h
    obtain ⟨x, h1, h2⟩ := valB_ok (I := I) h.1
    obtain ⟨xs, h3, h4⟩ := valsB_ok (I := I) h.2
    exact ⟨x :: xs, .cons h1 h3, fun H R μ => ⟨x, xs, rfl, h2 H R μ, h4 H R μ⟩⟩
end
def gvB (K : PySem.W.Frag) (q : String × Val) : Bool := match PySem.W.nsIn K mainGlobals (q.1 : Str) with
  | some (some u) => valB K q.2 u
  | _ => false
def dxB (K : PySem.W.Frag) (q : String × List (Str × Val)) : Bool := q.2.all fun r => match PySem.W.nsIn K (He.ga K (q.1 : Str)) r.1 with
  | some (some u) => valB K r.2 u
  | _ => false
/-- no list stands in K -/
def noL (K : PySem.W.Frag) : Bool := K.all fun p => !(p.2.cls == .type "list")
/-! ### a def as the generator gives it -/
structure FD where
  f : String
  np : Nat
  fr : Bool
  N : List Str
  fn : Fn
  d : He.DefD
def FD.ok (g : Gt) (q : FD) : Bool := decide (q.d.at_ = ((q.f : Str), none)) && decide (q.d.name = (q.f : Str)) && C8.scC q.N (q.N.take q.np) q.d.scope && decide (q.np ≤ q.N.length) && decide (q.fn.np = q.np) && decide (q.fn.nl = q.N.length) &&
  (chkSs 400 g ⟨q.N, q.d.scope, fun _ => true⟩ q.fr [] [] q.fn.body q.d.body).isSome
def FD.bind (q : FD) : Prop := ∀ (K : PySem.W.Frag) (f : Addr) (fd : FuncData), FunD K q.d.name q.d.qual q.d.params q.d.body q.d.scope (q.d.dvs K) (q.d.kws K) f fd → Binds K fd (q.N.take q.np) []
/-! ### own exceptions -/
structure XD where
  c : String
  B : String
  f : String
  d : He.DefD
def XD.bind (q : XD) : Prop := ∀ (K : PySem.W.Frag) (f : Addr) (fd : FuncData), FunD K q.d.name q.d.qual q.d.params q.d.body q.d.scope (q.d.dvs K) (q.d.kws K) f fd → Binds K fd ["self", (q.f : Str)] [] ∧ ∀ (s : Shared) (self u : Value), BindsTo s fd ⟨[self], [((q.f : Str), u)]⟩ [("self", self), ((q.f : Str), u)]
theorem bind_kw1 {K : PySem.W.Frag} {x qual : Str} {params : Arguments} {body : List Stmt} {scope : Scope} {kws : List (Str × V)} {f : Addr} {fd : FuncData} {nm : Str} (F : FunD K x qual params body scope [] kws f fd)
    (h : ∀ (kV doc pm : Value) (an : Option Addr) (cdv ct self u : Value), bindArgs (PySem.W.fnOf x qual params body scope .none kV doc pm an cdv ct) ⟨[self], [(nm, u)]⟩ = pure [(("self" : Str), self), (nm, u)]) (s : Shared) (self u : Value) : BindsTo s fd ⟨[self], [(nm, u)]⟩ [(("self" : Str), self), (nm, u)] := by
  obtain ⟨oc, od, dV, kV, doc, pm, an, cdv, ct, osl, rfl, lk, hcd, hD, hK⟩ := F.ex
  rcases hD with ⟨_, rfl⟩ | ⟨e, _⟩
  · exact .of_eq (h kV doc pm an cdv ct self u)
  · exact absurd rfl e
def xbOf : String → Option (String × String × List Value)
  | "ValueError" => some ("ValueError.__new__", "ValueError.__init__", [.type "ValueError", .type "Exception", .type "BaseException", .type "object"])
  | "TypeError" => some ("TypeError.__new__", "TypeError.__init__", [.type "TypeError", .type "Exception", .type "BaseException", .type "object"])
  | "IndexError" => some ("IndexError.__new__", "IndexError.__init__", [.type "IndexError", .type "LookupError", .type "Exception", .type "BaseException", .type "object"])
  | "LookupError" => some ("LookupError.__new__", "LookupError.__init__", [.type "LookupError", .type "Exception", .type "BaseException", .type "object"])
  | "OverflowError" => some ("OverflowError.__new__", "OverflowError.__init__", [.type "OverflowError", .type "ArithmeticError", .type "Exception", .type "BaseException", .type "object"])
  | "ZeroDivisionError" => some ("ZeroDivisionError.__new__", "ZeroDivisionError.__init__", [.type "ZeroDivisionError", .type "ArithmeticError", .type "Exception", .type "BaseException", .type "object"])
  | "KeyError" => some ("LookupError.__new__", "KeyError.__init__", [.type "KeyError", .type "LookupError", .type "Exception", .type "BaseException", .type "object"])
  | _ => none
theorem xbOf_ok {B newId initId : String} {bm : List Value} (h : xbOf B = some (newId, initId, bm)) : ∃ nB iN bn, PiX.XB B nB newId initId iN bn bm := by
  unfold xbOf at h
  split at h <;> cases h
  · exact ⟨_, _, _, PiX.xb_ValueError⟩
  · exact ⟨_, _, _, PiX.xb_TypeError⟩
  · exact ⟨_, _, _, PiX.xb_IndexError⟩
  · exact ⟨_, _, _, PiX.xb_LookupError⟩
  · exact ⟨_, _, _, PiX.xb_OverflowError⟩
  · exact ⟨_, _, _, PiX.xb_ZeroDivisionError⟩
  · exact ⟨_, _, _, PiX.xb_KeyError⟩
/-- the class object at C -/
def obB (K : PySem.W.Frag) (c : Str) (C : Addr) (bm : List Value) (newId : String) : Bool := match K.lookup C with
  | some ⟨.type "type", _, .cls cd, sl⟩ => (match cd.mro, sl.toList with
    | .ref C' :: bm', [_, _, _, _, some (.builtin n), _] => C' == C && n == newId && !cd.hasDel && cd.hasDict && bm' == bm && decide (cd.name = c)
    | _, _ => false)
  | _ => false
theorem obB_ok {K : PySem.W.Frag} {c : Str} {C : Addr} {bm : List Value} {newId : String} (q : obB K c C bm newId = true) : ∃ qn N bs sn sub ab col dd k0 k1 k2 k3 k5, K.lookup C = some (excClassObj c qn C N bs bm true sn sub ab col dd k0 k1 k2 k3 k5 newId) := by
  unfold obB at q
  split at q
  · rename_i dd cd sl ho
    split at q
    · rename_i C' bm' k0 k1 k2 k3 n k5 hm hs
      simp only [Bool.and_eq_true, beq_iff_eq, Bool.not_eq_true'] at q
      obtain ⟨⟨⟨⟨⟨rfl, rfl⟩, hdel⟩, hdt⟩, rfl⟩, hnm⟩ := q
      have hnm' := of_decide_eq_true hnm
      clear hnm
      obtain ⟨nm, bs, mro, ns, qn, hd, sn, sub, ab, col, del⟩ := cd
      dsimp only at hm hdel hdt hnm'
      subst hm hdel hdt
      subst hnm'
      have hsl : sl = #[k0, k1, k2, k3, some (.builtin n), k5] := by
        obtain ⟨l⟩ := sl
        simp only at hs
        rw [hs]
      subst hsl
      exact ⟨qn, ns, bs, sn, sub, ab, col, dd, k0, k1, k2, k3, k5, ho⟩
    · cases q
  · cases q
/-- what the classes under an own one give, whatever the heap -/
def bmB (B initId : String) (bm : List Value) : Bool := He.eqO (PySem.W.alongIn [] "__setattr__" bm) (some (some (.builtin "object.__setattr__"))) && He.eqO (PySem.W.alongIn [] "__getattribute__" bm) (some (some (.builtin "BaseException.__getattribute__"))) &&
  He.eqO (PySem.W.alongIn [] "__getattr__" bm) (some none) && He.eqO (PySem.W.alongIn [] "__class__" bm) (some (some (.builtin "object.__class__"))) && bm.contains (.type "BaseException") && bm.contains (.type "object")
theorem bm_ok {B newId initId : String} {bm : List Value} (h : xbOf B = some (newId, initId, bm)) : bmB B initId bm = true := by
  unfold xbOf at h
  split at h <;> cases h <;> decide +kernel
theorem vv_ok {K : PySem.W.Frag} {B newId initId : String} {bm : List Value} (h : xbOf B = some (newId, initId, bm)) : PySem.W.findCls K (.type B) (.type "type") "__init__" = some (.val (.builtin initId)) := by
  unfold xbOf at h
  split at h <;> cases h <;> kernel_rfl
def clB (K : PySem.W.Frag) (N fI : Addr) (f : Str) : Bool := He.eqO (PySem.W.nsIn K N "__setattr__") (some none) && He.eqO (PySem.W.nsIn K N "__getattribute__") (some none) &&
  He.eqO (PySem.W.nsIn K N "__getattr__") (some none) && He.eqO (PySem.W.nsIn K N "__class__") (some none) && He.eqO (PySem.W.nsIn K N f) (some none) && He.eqO (PySem.W.nsIn K N "__init__") (some (some (.ref fI))) &&
  decide (PySem.W.typeIn K (.ref fI) = some (.type "function"))
def nsB (K : PySem.W.Frag) (C fI : Addr) (f : Str) : Bool := match K.lookup C with
  | some ⟨_, _, .cls cd, _⟩ => clB K cd.ns fI f
  | _ => false
def xdB (K : PySem.W.Frag) (q : XD) : Bool := match xbOf q.B with
  | some (newId, _, bm) => obB K (q.c : Str) (He.ga K (q.c : Str)) bm newId && nsB K (He.ga K (q.c : Str)) (He.fAd K q.d.at_) (q.f : Str)
  | none => false
def XD.noF (q : XD) : Bool := match xbOf q.B with
  | some (_, _, bm) => He.eqO (PySem.W.alongIn [] (q.f : Str) bm) (some none)
  | none => false
theorem FLe.nil {K : PySem.W.Frag} : FLe [] K := fun _ _ e => nomatch (show (none : Option Obj) = some _ from e)
theorem find_skip {K : PySem.W.Frag} {C : Addr} {o : Obj} {cd : ClassData} {bm : List Value} {n : Str} {r : Option Value} (ho : K.lookup C = some o) (hd : o.data = .cls cd) (hm : cd.mro = .ref C :: bm) (e : PySem.W.nsIn K cd.ns n = some none) (h : PySem.W.alongIn [] n bm = some r) : PySem.W.findIn K (.ref C) n = some r := by
  obtain ⟨oc, od, dt, sl⟩ := o
  dsimp only at hd
  subst hd
  have h1 : PySem.W.ownIn K n (.ref C) = some none := by
    simp only [PySem.W.ownIn]
    rw [ho]
    exact e
  have h2 : PySem.W.findIn K (.ref C) n = PySem.W.alongIn K n cd.mro := by
    simp only [PySem.W.findIn]
    rw [ho]
  rw [h2, hm]
  unfold PySem.W.alongIn
  rw [h1]
  exact alongIn_le FLe.nil h
theorem find_own {K : PySem.W.Frag} {C : Addr} {o : Obj} {cd : ClassData} {bm : List Value} {n : Str} {v : Value} (ho : K.lookup C = some o) (hd : o.data = .cls cd) (hm : cd.mro = .ref C :: bm) (e : PySem.W.nsIn K cd.ns n = some (some v)) : PySem.W.findIn K (.ref C) n = some (some v) := by
  obtain ⟨oc, od, dt, sl⟩ := o
  dsimp only at hd
  subst hd
  have h1 : PySem.W.ownIn K n (.ref C) = some (some v) := by
    simp only [PySem.W.ownIn]
    rw [ho]
    exact e
  have h2 : PySem.W.findIn K (.ref C) n = PySem.W.alongIn K n cd.mro := by
    simp only [PySem.W.findIn]
    rw [ho]
  rw [h2, hm]
  unfold PySem.W.alongIn
  rw [h1]
/-- what its mro says -/
def ClsAt (K : PySem.W.Frag) (q : XD) : Prop := ∃ newId initId bm cd, xbOf q.B = some (newId, initId, bm) ∧ PySem.W.clsIn K (He.ga K (q.c : Str)) = some cd ∧ cd.mro = .ref (He.ga K (q.c : Str)) :: bm ∧ cd.name = (q.c : Str)
theorem xdB_ok {K : PySem.W.Frag} {q : XD} (hf : q.noF = true) (h : xdB K q = true) : (∃ initId, XCls K (He.ga K (q.c : Str)) (He.fAd K q.d.at_) (q.f : Str) q.B initId) ∧ ClsAt K q := by
  unfold xdB at h
  split at h
  · rename_i newId initId bm e
    simp only [Bool.and_eq_true] at h
    obtain ⟨h1, h3⟩ := h
    obtain ⟨nB, iN, bn, X⟩ := xbOf_ok e
    obtain ⟨qn, N, bs, sn, sub, ab, col, dd, k0, k1, k2, k3, k5, ho⟩ := obB_ok h1
    unfold ClsAt
    generalize He.ga K (q.c : Str) = C at ho h1 h3 ⊢
    generalize hcd : ({ name := (q.c : Str), bases := bs, mro := .ref C :: bm, ns := N, qualname := qn, hasDict := true, slotNames := sn, subclasses := sub, abstract := ab, collection := col, hasDel := false } : ClassData) = cd
    have ho2 : K.lookup C = some ⟨.type "type", dd, .cls cd, #[k0, k1, k2, k3, some (.builtin newId), k5]⟩ := by
      rw [ho, ← hcd]
      first | done | rfl
    have hm : cd.mro = .ref C :: bm := by rw [← hcd]
    have hcl : PySem.W.clsIn K C = some cd := by
      unfold PySem.W.clsIn
      rw [ho2]
    have hns : clB K cd.ns (He.fAd K q.d.at_) (q.f : Str) = true := by
      unfold nsB at h3
      rw [ho2] at h3
      exact h3
    unfold clB at hns
    simp only [Bool.and_eq_true, decide_eq_true_eq] at hns
    obtain ⟨⟨⟨⟨⟨⟨a1, a2⟩, a3⟩, a4⟩, a5⟩, a6⟩, a7⟩ := hns
    have hb := bm_ok e
    unfold bmB at hb
    simp only [Bool.and_eq_true] at hb
    obtain ⟨⟨⟨⟨⟨c1, c2⟩, c3⟩, c4⟩, c5⟩, c6⟩ := hb
    have hf2 : PySem.W.alongIn [] (q.f : Str) bm = some none := by
      unfold XD.noF at hf
      rw [e] at hf
      exact He.eqO_ok hf
    have hin : ∀ b : Value, bm.contains b = true → PySem.W.mroIn K C b = some true := fun b hb => by
      unfold PySem.W.mroIn
      rw [hcl]
      show (if cd.mro.isEmpty = true then none else some (cd.mro.contains b)) = some true
      rw [hm, List.contains_cons, hb, Bool.or_true]
      rfl
    refine ⟨⟨initId, ⟨nB, newId, iN, bn, bm, _, qn, N, bs, sn, sub, ab, col, dd, k0, k1, k2, k3, k5, X, ho⟩, vv_ok e, find_skip ho2 rfl hm (He.eqO_ok a1) (He.eqO_ok c1), find_skip ho2 rfl hm (He.eqO_ok a2) (He.eqO_ok c2), find_skip ho2 rfl hm (He.eqO_ok a3) (He.eqO_ok c3), find_skip ho2 rfl hm (He.eqO_ok a4) (He.eqO_ok c4), hin _ c5, ?_, ?_, ?_, find_skip ho2 rfl hm (He.eqO_ok a5) hf2, find_own ho2 rfl hm (He.eqO_ok a6), a7, ?_, ?_, hin _ c6⟩, newId, initId, bm, cd, e, hcl, hm, by rw [← hcd]⟩
    · show (K.lookup C).map (·.cls) = _
      rw [ho2]
      rfl
    · unfold PySem.W.keepIn
      dsimp only
      rw [ho2]
      show (PySem.W.specialIn K (.ref C) "__call__" == _) = true
      unfold PySem.W.specialIn
      rw [show PySem.W.typeIn K (.ref C) = some (.type "type") from by
        show (K.lookup C).map (·.cls) = _
        rw [ho2]
        rfl]
      show (PySem.W.findIn K (.type "type") "__call__" == _) = true
      exact beq_iff_eq.mpr (by kernel_rfl)
    · unfold PySem.W.hasDictIn
      rw [hcl, ← hcd]
      rfl
    · exact specialIn_le FLe.nil (by kernel_rfl)
    · exact takesIn_le FLe.nil (by kernel_rfl)
  · cases h
/-- the text of its __init__ -/
def XD.ok0 (q : XD) : Bool := decide (q.d.at_ = ((q.c : Str), some ("__init__" : Str))) && decide (q.d.name = ("__init__" : Str)) && q.d.dfl.isEmpty && q.d.kwd.isEmpty && C8.scC ["self", (q.f : Str)] ["self", (q.f : Str)] q.d.scope &&
  decide (q.d.scope.names.lookup (q.B : Str) = some .globalImplicit) && !((q.B : Str) == ("__debug__" : Str)) && decide (q.d.scope.names.lookup ("self" : Str) = some .local) && decide (q.d.scope.names.lookup (q.f : Str) = some .local) && nmC (q.f : Str) && (match q.d.body with
  | [.Expr (.Call (.Attribute (.Name b _) m p2) [.Name s1 _, .Constant (.str _) _ _] [] pos) _, .Assign [.Attribute (.Name s2 _) f1 _] (.Name f2 _) _] => decide (b = (q.B : Str)) && decide (m = ("__init__" : Str)) && decide (s1 = ("self" : Str)) && decide (s2 = ("self" : Str)) && decide (f1 = (q.f : Str)) && decide (f2 = (q.f : Str)) && (p2.endLine == pos.line)
  | _ => false)
def XD.ok (q : XD) : Bool := q.ok0 && q.noF
theorem XD.noF_of {q : XD} (h : q.ok = true) : q.noF = true := by
  unfold XD.ok at h
  rw [Bool.and_eq_true] at h
  exact h.2
theorem XD.fn {q : XD} (h : q.ok0 = true) {P : Program} {w : World} {K : PySem.W.Frag} {mg : Str → Option Value} {base : Heap} {CX : CXT} {C fI : Addr} {initId : String} {fd : FuncData} (T : XCls K C fI (q.f : Str) q.B initId) (hB : mg (q.B : Str) = none)
    (F : FunD K q.d.name q.d.qual q.d.params q.d.body q.d.scope (q.d.dvs K) (q.d.kws K) fI fd) : FnOk P w K mg base CX 1 fI fd ["self", (q.f : Str)] (spI C (q.f : Str)) := by
  unfold XD.ok0 at h
  simp only [Bool.and_eq_true, decide_eq_true_eq, Bool.not_eq_true'] at h
  obtain ⟨⟨⟨⟨⟨⟨⟨⟨⟨⟨h1, h2⟩, h3⟩, h4⟩, h5⟩, h6⟩, h7⟩, h8⟩, h9⟩, h10⟩, h11⟩ := h
  obtain ⟨c, B, f, ⟨at_, name, qual, params, body, scope, dfl, kwd⟩⟩ := q
  dsimp only at h1 h2 h3 h4 h5 h6 h7 h8 h9 h10 h11 hB F T ⊢
  unfold nmC at h10
  rw [Bool.and_eq_true, Bool.not_eq_true', Bool.not_eq_true'] at h10
  have e3 : dfl = [] := List.isEmpty_iff.mp h3
  have e4 : kwd = [] := List.isEmpty_iff.mp h4
  subst e3 e4 h2
  split at h11
  · rename_i b p1 m p2 s1 p3 mm j p4 pos p5 s2 p6 f1 p7 f2 p8 p10
    simp only [Bool.and_eq_true, decide_eq_true_eq] at h11
    obtain ⟨⟨⟨⟨⟨⟨rfl, rfl⟩, rfl⟩, rfl⟩, rfl⟩, rfl⟩, hl⟩ := h11
    exact init_fn (p9 := p8) T hB F (C8.fnScope_by h5) h6 h7 (.inl h8) (.inl h9) h10.1 h10.2 hl
  · cases h11
structure HD where
  fds : List FD
  gvs : List (String × Val)
  dxs : List (String × List (Str × Val))
  fks : List (String × Nat × List Str × List Src) := []
  xds : List XD := []
  xns : List String := []
  xfa : List He.Fa := []
  xfn : List He.DefD := []
def HD.g (h : HD) : Gt := { fns := h.fds.map fun q => (q.f, (q.np, q.fr)), gvs := h.gvs, dxs := h.dxs, fks := h.fks, xcs := h.xds.map fun q => (q.c, q.B, q.f), xns := h.xns }
def HD.tab (h : HD) : Tab := fun f => (h.fds.find? fun q => q.f == f).map (·.fn)
/-- is n one of the own classes? -/
def HD.own (h : HD) (n : String) : Bool := h.xds.any fun q => q.c == n
def HD.fa1 (h : HD) : List He.Fa := (h.xds.map fun q => He.Fa.glo (q.c : Str)) ++ ((h.xds.map fun q => He.Fa.free (q.B : Str)) ++ ((h.xns.filter fun n => !h.own n).map fun (n : String) => He.Fa.free (n : Str)))
def HD.fa (h : HD) : List He.Fa := ((h.fds.map fun q => He.Fa.glo (q.f : Str)) ++ (h.dxs.map fun q => He.Fa.glo (q.1 : Str)) ++ (bltN.map fun (n : String) => He.Fa.free (n : Str))) ++ (h.fa1 ++ h.xfa)
def HD.fn (h : HD) : List He.DefD := h.fds.map (·.d) ++ (h.xds.map (·.d) ++ h.xfn)
def HD.ts (h : HD) : List He.Tab := h.dxs.map fun q => (fun K => He.ga K (q.1 : Str), q.2.map (·.1))
/-- where the exceptions' classes stand -/
def HD.xi (h : HD) (K : PySem.W.Frag) : XI := ⟨fun c => if h.own c then some (He.ga K (c : Str)) else none, h.g.sg.xf⟩
def HD.cv (h : HD) (K : PySem.W.Frag) (n : String) : Value := if h.own n then .ref (He.ga K (n : Str)) else .type n
def ovB (B n : String) : Bool := match xbOf B with
  | some (_, _, bm) => bm.contains (.type n) == (overB B).contains n
  | none => false
def HD.xnB (h : HD) (n : String) : Bool := if h.own n then h.xds.all fun q => !(overB q.B).contains n else decide (bootBuiltins (n : Str) = some (.type n)) && !decide ((n : Str) = "__name__") && PySem.W.kitMeta n && decide (PySem.W.subIn [] (.type n) (.type "BaseException") = some true) && h.xds.all fun q => ovB q.B n
def HD.ok (h : HD) : Bool := h.fds.all (FD.ok h.g) && decide ((h.fds.map (·.f)).Nodup) && h.xds.all XD.ok && h.xns.all h.xnB
abbrev AlP : Type := He.AlT × Bool
def HD.ex (h : HD) (K : PySem.W.Frag) : Bool := h.gvs.all (gvB K) && h.dxs.all (dxB K) && noL K && h.xds.all (xdB K)
def HD.obsK (h : HD) (K : PySem.W.Frag) : AlP := (He.obsT h.fa h.fn h.ts K, h.ex K)
def HD.val (h : HD) (w : World) : AlP := (He.valT h.fn h.ts w, true)
def HD.obsG (h : HD) (n : Nat) (g : Addr → Option Obj) : AlP := h.obsK (He.frG g (He.asD g n))
def HD.Says (h : HD) (w : World) (K : PySem.W.Frag) : Prop := h.obsK K = h.val w
def HD.hook (h : HD) (n : Nat) : PySem.W.Hook where
  α := AlP
  obs := fun s => h.obsG n s.heap.get?
  val := fun w => h.val w
  says := fun w hp => ∃ K : PySem.W.Frag, K.In hp ∧ h.Says w K
  of := fun _ _ e => ⟨_, He.frG_in, e⟩
  keeps := fun _ _ _ ⟨K, hK, c⟩ k => ⟨K, PySem.W.Frag.In.keeps hK k, c⟩
theorem HD.obs_eq {h : HD} {n : Nat} {g : Addr → Option Obj} {s : Shared} (e : ∀ a, g a = s.heap.get? a) : h.obsG n g = (h.hook n).obs s := by
  have e : g = s.heap.get? := funext e
  rw [e] <;> rfl
section
variable {h : HD} {w : World} {K : PySem.W.Frag} {hp : Heap} {mg : Str → Option Value} {I : XI}
theorem HD.Says.t (c : h.Says w K) : He.SaysT h.fa h.fn h.ts w K := congrArg (fun z : AlP => z.1) c
theorem HD.Says.x (c : h.Says w K) : h.ex K = true := congrArg (fun z : AlP => z.2) c
theorem HD.Says.fact (c : h.Says w K) {f : He.Fa} (hf : f ∈ h.fa) : f.ok K = true := by
  obtain ⟨i, hi⟩ := List.getElem?_of_mem hf
  exact c.t.d.fact i hi
theorem lk_fd : ∀ {l : List FD} {f : String} {m : Nat} {fr : Bool}, (l.map fun q => (q.f, (q.np, q.fr))).lookup f = some (m, fr) → ∃ q ∈ l, q.f = f ∧ q.np = m ∧ q.fr = fr
  | [], _, _, _, h => by cases h
  | q :: l, f, m, fr, h => by
    rw [List.map_cons, List.lookup_cons] at h
    cases e : f == q.f with
    | true =>
      rw [e] at h
      cases h
      exact ⟨q, List.mem_cons_self .., (eq_of_beq e).symm, rfl, rfl⟩
    | false =>
      rw [e] at h
      obtain ⟨p, h1, h2⟩ := lk_fd h
      exact ⟨p, List.mem_cons_of_mem _ h1, h2⟩
theorem find_fd : ∀ {l : List FD} {q : FD}, (l.map (·.f)).Nodup → q ∈ l → l.find? (fun p => p.f == q.f) = some q
  | [], _, _, h => by cases h
  | p :: l, q, hn, h => by
    rw [List.map_cons, List.nodup_cons] at hn
    rcases List.mem_cons.mp h with rfl | h
    · rw [List.find?_cons, beq_self_eq_true]
    · have ne : (p.f == q.f) = false := by
        cases e : p.f == q.f with
        | false => rfl
        | true => exact absurd (List.mem_map.mpr ⟨q, h, (eq_of_beq e).symm⟩) hn.1
      rw [List.find?_cons, ne]
      exact find_fd hn.2 h
theorem HD.at_ (hok : h.ok = true) (hb : ∀ q ∈ h.fds, q.bind) (X : K.In hp) (G : hp.Ns mainGlobals mg) (c : h.Says w K) : ∀ q ∈ h.fds, ∃ fd, FunD K q.d.name q.d.qual q.d.params q.d.body q.d.scope (q.d.dvs K) (q.d.kws K) (He.ga K (q.f : Str)) fd ∧
    DefAt K mg h.g h.tab q.f q.np q.fr (He.ga K (q.f : Str)) fd (q.N.take q.np) := fun q hq => by
  unfold HD.ok at hok
  rw [Bool.and_eq_true, Bool.and_eq_true, Bool.and_eq_true] at hok
  have hn := of_decide_eq_true hok.1.1.2
  have q0 := List.all_eq_true.mp hok.1.1.1 q hq
  unfold FD.ok at q0
  simp only [Bool.and_eq_true, decide_eq_true_eq] at q0
  obtain ⟨⟨⟨⟨⟨⟨q1, q2⟩, q3⟩, q4⟩, q5⟩, q6⟩, q7⟩ := q0
  obtain ⟨r, hr⟩ := Option.isSome_iff_exists.mp q7
  have hd : q.d ∈ h.fn := List.mem_append_left _ (List.mem_map.mpr ⟨q, hq, rfl⟩)
  obtain ⟨i, hi⟩ := List.getElem?_of_mem hd
  obtain ⟨fd, F⟩ := c.t.d.def_ i hi
  have e : He.fAd K q.d.at_ = He.ga K (q.f : Str) := by rw [q1]; rfl
  rw [e] at F
  have F2 : FunD K (q.f : Str) q.d.qual q.d.params q.d.body q.d.scope (q.d.dvs K) (q.d.kws K) (He.ga K (q.f : Str)) fd := by
    rw [q2] at F
    exact F
  have gl : mg (q.f : Str) = some (.ref (He.ga K (q.f : Str))) := He.glo_ok X G (c.fact (List.mem_append_left _ (List.mem_append_left _ (List.mem_append_left _ (List.mem_map.mpr ⟨q, hq, rfl⟩)))))
  refine ⟨fd, F, _, _, _, _, _, _, q.N, q.fn, 400, r, F2, gl, hb q hq K (He.ga K (q.f : Str)) fd F, C8.fnScope_by q3, ?_, ?_, q5, q6, hr⟩
  · rw [List.length_take]
    omega
  · unfold HD.tab
    rw [find_fd hn hq]
    rfl
/-- the shapes of calls by names -/
def FkP (q : String × Nat × List Str × List Src) (p : FD) : Prop := ∀ (K : PySem.W.Frag) (f : Addr) (fd : FuncData), FunD K p.d.name p.d.qual p.d.params p.d.body p.d.scope (p.d.dvs K) (p.d.kws K) f fd → ∃ gg gV, KBn K fd (p.N.take p.np) q.2.1 q.2.2.1 gg gV ∧ KwRep q.2.1 q.2.2.1.length q.2.2.2 p.np gV
def HD.kw (h : HD) : Prop := ∀ q ∈ h.fks, ∀ p ∈ h.fds, p.f = q.1 → FkP q p
theorem lk_xd : ∀ {l : List XD} {c : String}, ((l.map fun q => (q.c, q.B, q.f)).lookup c).isSome = true → ∃ q ∈ l, q.c = c ∧ (l.map fun q => (q.c, q.B, q.f)).lookup c = some (q.B, q.f)
  | [], _, h => by cases h
  | q :: l, c, h => by
    rw [List.map_cons, List.lookup_cons] at h ⊢
    cases e : c == q.c with
    | true => exact ⟨q, List.mem_cons_self .., (eq_of_beq e).symm, rfl⟩
    | false =>
      rw [e] at h
      obtain ⟨p, h1, h2, h3⟩ := lk_xd h
      exact ⟨p, List.mem_cons_of_mem _ h1, h2, h3⟩
theorem own_lk : ∀ {l : List XD} {c : String}, (l.any fun q => q.c == c) = true → ((l.map fun q => (q.c, q.B, q.f)).lookup c).isSome = true
  | [], _, h => by cases h
  | q :: l, c, h => by
    rw [List.map_cons, List.lookup_cons]
    cases e : c == q.c with
    | true => rfl
    | false =>
      rw [List.any_cons] at h
      have e2 : (q.c == c) = false := by
        cases e3 : q.c == c with
        | false => rfl
        | true => rw [eq_of_beq e3] at e; simp at e
      rw [e2, Bool.false_or] at h
      exact own_lk h
theorem str_inj {a b : String} (h : (a : Str) = (b : Str)) : a = b := by
  have h : Str.ofString a = Str.ofString b := h
  rw [Str.ofString_eq_toList, Str.ofString_eq_toList] at h
  have h2 : a.toList.map Char.toNat = b.toList.map Char.toNat := by
    have z := congrArg (fun s : Str => s.cps.toList) h
    simpa using z
  have h3 : a.toList = b.toList := by
    refine List.map_inj_right ?_ |>.mp h2
    intro x y e
    exact Char.ext (UInt32.toNat.inj e) 
  exact String.toList_inj.mp h3
theorem no_ref {B newId initId : String} {bm : List Value} (h : xbOf B = some (newId, initId, bm)) (a : Addr) : bm.contains (.ref a) = false := by
  unfold xbOf at h
  split at h <;> cases h <;> rfl
theorem HD.xex (c : h.Says w K) : h.gvs.all (gvB K) = true ∧ h.dxs.all (dxB K) = true ∧ noL K = true ∧ h.xds.all (xdB K) = true := by
  have hx := c.x
  unfold HD.ex at hx
  simp only [Bool.and_eq_true] at hx
  exact ⟨hx.1.1.1, hx.1.1.2, hx.1.2, hx.2⟩
theorem HD.xat (hok : h.ok = true) (hxb : ∀ q ∈ h.xds, q.bind) (X : K.In hp) (G : hp.Ns mainGlobals mg) (c : h.Says w K) {n : String} (hn : h.own n = true) : ∃ q ∈ h.xds, q.c = n ∧ h.g.xcs.lookup n = some (q.B, q.f) ∧ ∃ initId fd, XCls K (He.ga K (n : Str)) (He.fAd K q.d.at_) (q.f : Str) q.B initId ∧ mg (n : Str) = some (.ref (He.ga K (n : Str))) ∧
    (∀ (P : Program) (base : Heap), FnOk P w K mg base (L2.CX P w) 1 (He.fAd K q.d.at_) fd ["self", (q.f : Str)] (spI (He.ga K (n : Str)) (q.f : Str))) ∧ Binds K fd ["self", (q.f : Str)] [] ∧ ∀ (s : Shared) (self u : Value), BindsTo s fd ⟨[self], [((q.f : Str), u)]⟩ [("self", self), ((q.f : Str), u)] := by
  obtain ⟨q, hq, rfl, hl⟩ := lk_xd (own_lk hn)
  have q0 := List.all_eq_true.mp (HD.xex c).2.2.2 q hq
  unfold HD.ok at hok
  rw [Bool.and_eq_true, Bool.and_eq_true] at hok
  have q2 := List.all_eq_true.mp hok.1.2 q hq
  unfold XD.ok at q2
  rw [Bool.and_eq_true] at q2
  have q1 := q2.1
  obtain ⟨⟨initId, T⟩, _⟩ := xdB_ok q2.2 q0
  have hd : q.d ∈ h.fn := List.mem_append_right _ (List.mem_append_left _ (List.mem_map.mpr ⟨q, hq, rfl⟩))
  obtain ⟨i, hi⟩ := List.getElem?_of_mem hd
  obtain ⟨fd, F⟩ := c.t.d.def_ i hi
  have gl : mg (q.c : Str) = some (.ref (He.ga K (q.c : Str))) := He.glo_ok X G (c.fact (List.mem_append_right _ (List.mem_append_left _ (List.mem_append_left _ (List.mem_map.mpr ⟨q, hq, rfl⟩)))))
  have hB : mg (q.B : Str) = none := He.free_ok X G (c.fact (List.mem_append_right _ (List.mem_append_left _ (List.mem_append_right _ (List.mem_append_left _ (List.mem_map.mpr ⟨q, hq, rfl⟩))))))
  exact ⟨q, hq, rfl, hl, initId, fd, T, gl, fun P base => XD.fn q1 T hB F, (hxb q hq K _ fd F).1, (hxb q hq K _ fd F).2⟩
theorem HD.gok (hok : h.ok = true) (hb : ∀ q ∈ h.fds, q.bind) (hkw : h.kw) (hxb : ∀ q ∈ h.xds, q.bind) (X : K.In hp) (G : hp.Ns mainGlobals mg) (c : h.Says w K) : GOk w K mg (h.xi K) h.g h.tab := by
  obtain ⟨x1, x2, x3, x4⟩ := HD.xex c
  have x5 : h.xns.all h.xnB = true := by
    unfold HD.ok at hok
    rw [Bool.and_eq_true] at hok
    exact hok.2
  have x6 : h.xds.all XD.ok = true := by
    unfold HD.ok at hok
    rw [Bool.and_eq_true, Bool.and_eq_true] at hok
    exact hok.1.2
  have rows : ∀ q ∈ h.xds, (∃ initId, XCls K (He.ga K (q.c : Str)) (He.fAd K q.d.at_) (q.f : Str) q.B initId) ∧ ClsAt K q := fun q hq => xdB_ok (XD.noF_of (List.all_eq_true.mp x6 q hq)) (List.all_eq_true.mp x4 q hq)
  refine ⟨fun f m fr hl => ?_, fun q hq => ?_, fun q hq => ?_, fun n hn => ?_, fun q hq m fr hl => ?_, fun n C hc => ?_, fun n hn => ?_, fun n hn => ?_⟩
  · obtain ⟨q, hq, rfl, rfl, rfl⟩ := lk_fd hl
    obtain ⟨fd, _, D⟩ := HD.at_ hok hb X G c q hq
    exact ⟨_, fd, _, D⟩
  · have z := List.all_eq_true.mp x1 q hq
    unfold gvB at z
    split at z
    · rename_i u e
      obtain ⟨x, h1, h2⟩ := valB_ok (I := h.xi K) z
      exact ⟨x, u, PySem.W.mg_of X G e, h1, h2⟩
    · cases z
  · have gl : mg (q.1 : Str) = some (.ref (He.ga K (q.1 : Str))) := He.glo_ok X G (c.fact (List.mem_append_left _ (List.mem_append_left _ (List.mem_append_right _ (List.mem_map.mpr ⟨q, hq, rfl⟩)))))
    refine ⟨_, gl, fun y v hl => ?_⟩
    have z := List.all_eq_true.mp x2 q hq
    unfold dxB at z
    have z := List.all_eq_true.mp z (y, v) (PySem.mem_of_lookup hl)
    simp only at z
    split at z
    · rename_i u e
      obtain ⟨x, h1, h2⟩ := valB_ok (I := h.xi K) z
      obtain ⟨i, hi⟩ := List.getElem?_of_mem (show ((fun K => He.ga K (q.1 : Str), q.2.map (·.1)) : He.Tab) ∈ h.ts from List.mem_map.mpr ⟨q, hq, rfl⟩)
      obtain ⟨es, n, k1, k2, k3⟩ := c.t.tab i hi
      exact ⟨x, ⟨es, n, u, k1, k2, e, h1⟩, h2⟩
    · cases z
  · exact He.free_ok X G (c.fact (List.mem_append_left _ (List.mem_append_right _ (List.mem_map.mpr ⟨n, hn, rfl⟩))))
  · obtain ⟨p, hp, e1, rfl, rfl⟩ := lk_fd hl
    obtain ⟨fd, F, D⟩ := HD.at_ hok hb X G c p hp
    obtain ⟨gg, gV, k1, k2⟩ := hkw q hq p hp e1 K _ fd F
    try rw [e1] at D
    exact ⟨_, fd, _, D, gg, gV, k1, k2⟩
  · have hn : h.own n = true := by
      cases e : h.own n with
      | true => rfl
      | false =>
        have hc : (if h.own n then some (He.ga K (n : Str)) else none) = some C := hc
        rw [e] at hc
        cases hc
    have hc : (if h.own n then some (He.ga K (n : Str)) else none) = some C := hc
    rw [if_pos hn] at hc
    cases hc
    obtain ⟨q, hq, e1, hl, initId, fd, T, _⟩ := HD.xat hok hxb X G c hn
    have e2 : h.g.sg.eb n = some q.B := by show (h.g.xcs.lookup n).map (·.1) = _; rw [hl]; rfl
    have e3 : h.g.sg.xf n = some q.f := by show (h.g.xcs.lookup n).map (·.2) = _; rw [hl]; rfl
    exact ⟨_, q.f, q.B, initId, T, e3, e2, e3⟩
  · have ho : h.own n = true := by
      obtain ⟨q, hq, e1, _⟩ := lk_xd hn
      exact List.any_eq_true.mpr ⟨q, hq, by rw [e1]; exact beq_self_eq_true n⟩
    obtain ⟨q, hq, e1, hl, initId, fd, T, gl, F, B, B2⟩ := HD.xat hok hxb X G c ho
    have e2 : h.g.sg.eb n = some q.B := by show (h.g.xcs.lookup n).map (·.1) = _; rw [hl]; rfl
    have e3 : h.g.sg.xf n = some q.f := by show (h.g.xcs.lookup n).map (·.2) = _; rw [hl]; rfl
    exact ⟨_, _, q.f, q.B, initId, fd, T, (by show (if h.own n then some (He.ga K (n : Str)) else none) = _; rw [if_pos ho]), e3, e2, e3, gl, F, B, B2⟩
  · have z := List.all_eq_true.mp x5 n hn
    unfold HD.xnB at z
    have key : ∀ d C, (h.xi K).ce d = some C → ∃ q ∈ h.xds, q.c = d ∧ C = He.ga K (q.c : Str) ∧ h.g.sg.eb d = some q.B := fun d C hd => by
      have hd : (if h.own d then some (He.ga K (d : Str)) else none) = some C := hd
      cases e : h.own d with
      | false =>
        rw [e] at hd
        cases hd
      | true =>
        rw [if_pos e] at hd
        cases hd
        obtain ⟨q, hq, rfl, hl⟩ := lk_xd (own_lk e)
        exact ⟨q, hq, rfl, rfl, by show (h.g.xcs.lookup q.c).map (·.1) = _; rw [show h.g.xcs.lookup q.c = some (q.B, q.f) from hl]; rfl⟩
    cases e : h.own n with
    | true =>
      rw [if_pos e] at z
      obtain ⟨p, hp, e1, hl, initId, fd, T, gl, _⟩ := HD.xat hok hxb X G c e
      obtain ⟨⟨_, Tp⟩, newp, inp, bmp, cdp, xp, kp, mp, np⟩ := rows p hp
      rw [e1] at Tp kp
      refine ⟨.ref (He.ga K (n : Str)), .ref (He.ga K (n : Str)), rfl, fun u r => r, .inl gl, fun d C hd => ?_⟩
      obtain ⟨q, hq, rfl, rfl, eb⟩ := key d C hd
      obtain ⟨⟨_, Tq⟩, newq, inq, bmq, cdq, xq, kq, mq, nq⟩ := rows q hq
      have no := List.all_eq_true.mp z q hq
      rw [Bool.not_eq_true'] at no
      have cc : (He.ga K (q.c : Str) == He.ga K (n : Str)) = (q.c == n) := by
        by_cases h1 : q.c = n
        · rw [h1]
          simp
        · have h2 : He.ga K (q.c : Str) ≠ He.ga K (n : Str) := fun h2 => by
            rw [h2, kp] at kq
            cases kq
            have h3 : (q.c : Str) = (p.c : Str) := nq.symm.trans np
            rw [e1] at h3
            exact h1 (str_inj h3)
          rw [beq_eq_false_iff_ne.mpr h2, beq_eq_false_iff_ne.mpr h1]
      have nt : bmq.contains (.ref (He.ga K (n : Str))) = false := no_ref xq _
      have mi : PySem.W.mroIn K (He.ga K (q.c : Str)) (.ref (He.ga K (n : Str))) = some (q.c == n) := by
        unfold PySem.W.mroIn
        rw [kq, Option.bind_some, mq, List.contains_cons, nt, Bool.or_false]
        show some ((Value.ref (He.ga K (n : Str))) == Value.ref (He.ga K (q.c : Str))) = _
        rw [← cc]
        congr 1
        by_cases h1 : He.ga K (q.c : Str) = He.ga K (n : Str)
        · rw [h1]
          simp
        · have h2 : ¬ (Value.ref (He.ga K (n : Str)) = Value.ref (He.ga K (q.c : Str))) := fun h2 => h1 (Value.ref.inj h2).symm
          rw [beq_eq_false_iff_ne.mpr h1, beq_eq_false_iff_ne.mpr h2]
      have kc : PySem.W.kitCls K (.ref (He.ga K (q.c : Str))) (.ref (He.ga K (n : Str))) = some (q.c == n) := by
        show (if ((PySem.W.clsIn K (He.ga K (n : Str))).isSome && PySem.W.typeIn K (.ref (He.ga K (n : Str))) == some (.type "type")) = true then PySem.W.mroIn K (He.ga K (q.c : Str)) (.ref (He.ga K (n : Str))) else none) = _
        rw [if_pos (by rw [kp, Tp.tyC]; rfl), mi]
      refine ⟨q.c == n, by unfold undX; rw [eb]; simp only [no, Bool.or_false], ?_, ?_⟩
      · unfold PySem.W.kitOne
        split
        · rename_i h1
          have h2 := Value.ref.inj (eq_of_beq h1)
          rw [← cc, h2]
          simp
        · exact kc
      · unfold PySem.W.exmOne
        rw [show PySem.W.subIn K (.ref (He.ga K (n : Str))) (.type "BaseException") = some true from Tp.exC, if_pos (by rfl)]
        exact kc
    | false =>
      rw [if_neg (by rw [e]; exact Bool.false_ne_true)] at z
      simp only [Bool.and_eq_true, decide_eq_true_eq, Bool.not_eq_true', decide_eq_false_iff_not] at z
      obtain ⟨⟨⟨⟨z1, z2⟩, z3⟩, z4⟩, z5⟩ := z
      have gn : mg (n : Str) = none := He.free_ok X G (c.fact (List.mem_append_right _ (List.mem_append_left _ (List.mem_append_right _ (List.mem_append_right _ (List.mem_map.mpr ⟨n, List.mem_filter.mpr ⟨hn, by rw [e]; rfl⟩, rfl⟩))))))
      refine ⟨.type n, .ty n, rfl, fun u r => r, .inr ⟨gn, z1, z2⟩, fun d C hd => ?_⟩
      obtain ⟨q, hq, rfl, rfl, eb⟩ := key d C hd
      obtain ⟨⟨_, Tq⟩, newq, inq, bmq, cdq, xq, kq, mq, nq⟩ := rows q hq
      have ov := List.all_eq_true.mp z5 q hq
      unfold ovB at ov
      rw [xq] at ov
      have ov : bmq.contains (.type n) = (overB q.B).contains n := eq_of_beq ov
      have cn : (q.c == n) = false := by
        cases h1 : q.c == n with
        | false => rfl
        | true =>
          have : h.own n = true := List.any_eq_true.mpr ⟨q, hq, h1⟩
          rw [this] at e
          cases e
      have mi : PySem.W.mroIn K (He.ga K (q.c : Str)) (.type n) = some ((overB q.B).contains n) := by
        unfold PySem.W.mroIn
        rw [kq, Option.bind_some, mq, List.contains_cons, ← ov]
        rfl
      have kc : PySem.W.kitCls K (.ref (He.ga K (q.c : Str))) (.type n) = some ((overB q.B).contains n) := by
        show (if PySem.W.kitMeta n = true then PySem.W.mroIn K (He.ga K (q.c : Str)) (.type n) else none) = _
        rw [if_pos z3, mi]
      refine ⟨(overB q.B).contains n, by unfold undX; rw [eb]; simp only [cn, Bool.false_or], ?_, ?_⟩
      · unfold PySem.W.kitOne
        rw [if_neg (by intro h1; exact absurd (eq_of_beq h1) (fun h2 => by cases h2))]
        exact kc
      · unfold PySem.W.exmOne
        have z4' : PySem.W.subIn K (.type n) (.type "BaseException") = some true := z4
        rw [z4', if_pos (by rfl)]
        exact kc
theorem frag_mem {a : Addr} {o : Obj} : ∀ {l : PySem.W.Frag}, l.lookup a = some o → (a, o) ∈ l
  | [], h => by cases h
  | (b, p) :: l, h => by
    rw [List.lookup_cons] at h
    cases e : a == b with
    | true =>
      rw [e] at h
      cases h
      rw [eq_of_beq e]
      exact List.mem_cons_self ..
    | false =>
      rw [e] at h
      exact List.mem_cons_of_mem _ (frag_mem h)
theorem HD.Says.noList (c : h.Says w K) {a : Addr} {o : Obj} (e : K.lookup a = some o) : o.cls ≠ .type "list" := by
  have hx := (HD.xex c).2.2.1
  unfold noL at hx
  have z := List.all_eq_true.mp hx (a, o) (frag_mem e)
  intro q
  rw [show (a, o).2.cls = Value.type "list" from q] at z
  exact absurd z (by decide)
/-- what the law's def is asked -/
theorem HD.asked {Φ : Tab} {sg : Sig} {d : Nat} (c : h.Says w K) (hall : ∀ ns : List Int, ns.length ≤ 63 → ∃ S', callF sg Φ d "law" [.loc 0] [.ro (ns.map .int)] = .ok (.bl true) S') (H : Hp) (a : Addr) (ns : List Int) (hl : ns.length ≤ 63) (hS : SqL K H a (ns.map V.int)) :
    spC I K (callF sg Φ d) "law" 1 false [.ref a] H (fun v _ => v = .bl true) fun _ _ _ => False := by
  have ha : ∃ o, H a = some o := by
    rcases hS with (z | ⟨o, z⟩) | ⟨o, its, n, hk, hc, _⟩
    · exact ⟨_, z⟩
    · exact ⟨_, z⟩
    · exact absurd hc (HD.Says.noList c hk)
  have rn : ∀ (l : List Int) (R : Addr → Prop) (μ : List Addr), RepVs I K H R μ (l.map .int) (l.map V.int) := by
    intro l R μ
    induction l with
    | nil => rfl
    | cons i l ih => exact ⟨_, _, rfl, rfl, ih⟩
  obtain ⟨S', e⟩ := hall ns hl
  refine ⟨⟨fun _ => False, fun _ => False, [a]⟩, [.loc 0], [.ro (ns.map .int)], ⟨fun _ z => z, fun _ z => z.elim, by simp, fun b hb => ?_⟩, ⟨rfl, fun n o hn => ?_⟩, ⟨_, _, rfl, ⟨a, rfl, rfl⟩, rfl⟩, rfl, ?_⟩
  · have hb : b = a := by simpa using hb
    subst hb
    exact ⟨fun z => z, ha⟩
  · cases n with
    | zero =>
      cases hn
      exact ⟨a, rfl, _, hS, rn ns _ _⟩
    | succ n => simp at hn
  · rw [e]
    exact fun W' H' x n k => k
/-- an exception, of whatever program -/
def CXA : CXT := fun outer H s E u s' => ∃ P w, L2.CX P w outer H s E u s'
theorem cxa_no {H : Hp} {s : Shared} {e : Value} {s' : Shared} (z : CXA [] H s (fun _ _ _ => False) e s') : False := by
  obtain ⟨_, _, _, _, _, _, _, _, _, _, _, _, _, _, z⟩ := z
  exact z
theorem fn_any {P : Program} {base : Heap} {k : Nat} {f : Addr} {fd : FuncData} {ps : List Str} {sp : Sp} (F : FnG P w K mg base (L2.CX P w) k f fd ps sp) : FnG P w K mg base CXA k f fd ps sp :=
  ⟨F.many, fun A outer s H args us vs Q E hq hr e0 hb hv hs => codeAny_mono (F.run A outer s H args us vs Q E hq hr e0 hb hv hs) fun r s' z => by
    cases r with
    | error e => exact ⟨P, w, z⟩
    | ok fl => cases fl <;> exact z⟩
/-- THE END -/
theorem HD.fin {P : Program} {n d : Nat} {q : FD} {x : Str} {w : World} {mg : Str → Option Value} {fa : Addr} {hp : Heap} (hkw : h.kw) (hxb : ∀ q ∈ h.xds, q.bind) (hok : h.ok = true) (hb : ∀ q ∈ h.fds, q.bind) (hq : q ∈ h.fds) (hf : q.f = "law") (h1 : q.np = 1) (h2 : q.fr = false) (h3 : q.N.take q.np = [x])
    (hbA : ∀ (K : PySem.W.Frag) (f : Addr) (fd : FuncData), FunD K q.d.name q.d.qual q.d.params q.d.body q.d.scope (q.d.dvs K) (q.d.kws K) f fd → ∀ (s : Shared) (u : Value), BindsTo s fd ⟨[u], []⟩ [(x, u)])
    (hall : ∀ ns : List Int, ns.length ≤ 63 → ∃ S', callF h.g.sg h.tab d "law" [.loc 0] [.ro (ns.map .int)] = .ok (.bl true) S') (Y : (h.hook n).says w hp) (G : hp.Ns mainGlobals mg) (hm : mg ("law" : Str) = some (.ref fa)) :
    ∃ (K : PySem.W.Frag) (fd : FuncData) (sp : Sp), K.In hp ∧ (∀ (s : Shared) (u : Value), BindsTo s fd ⟨[u], []⟩ [(x, u)]) ∧
        (∀ (H : Hp) (a : Addr) (ns : List Int), ns.length ≤ 63 → Only H → SqL K H a (ns.map V.int) → sp [.ref a] H (fun v _ => v = .bl true) fun _ _ _ => False) ∧
        ∀ base : Heap, K.In base → base.Ns mainGlobals mg → FnG P w K mg base CXA (d + 2) fa fd [x] sp := by
  obtain ⟨K, X, c⟩ := Y
  obtain ⟨fd, F, D⟩ := HD.at_ hok hb X G c q hq
  have gk := HD.gok hok hb hkw hxb X G c
  refine ⟨K, fd, spC (h.xi K) K (callF h.g.sg h.tab d) "law" 1 false, X, hbA K _ fd F, fun H a ns hl _ hS => HD.asked c hall H a ns hl hS, fun base _ _ => ?_⟩
  obtain ⟨q1, q2, _, _⟩ := fns_ok (P := P) (base := base) gk d q.f q.np q.fr _ fd _ D
  rw [hf, h1, h2] at q1
  rw [hf] at q2
  have e : fa = He.ga K (("law" : String) : Str) := by
    have z := hm.symm.trans q2
    exact (Value.ref.inj (Option.some.inj z))
  rw [e]
  have h3' : List.take 1 q.N = [x] := by rw [← h1]; exact h3
  rw [h3'] at q1
  exact fn_any q1
end
/-- no exceptions of one's own -/
def sg0 : Sig := ⟨fun _ => none, fun _ => none⟩
def xi0 : XI := ⟨fun _ => none, fun _ => none⟩
end Pi

end
section
set_option linter.all false
set_option maxRecDepth 100000
/-! PiU: calls by names: how they bind. -/
namespace Pi
open PySem PySem.Spec PyProof.Rows L2
inductive Pk where | u (i : Nat) | w (i : Nat) | d (i : Nat)
def pk1 {α : Type} (us its ws : List α) : Pk → Option α
  | .u i => us[i]?
  | .w i => ws[i]?
  | .d i => its[i]?
def pkg {α : Type} (l : List Pk) (us its ws : List α) : List α := l.filterMap (pk1 us its ws)
def pkS (np : Nat) (dv : List Val) : Pk → Src
  | .u i => .a i
  | .w i => .a (np + i)
  | .d i => .d (dv.getD i .non)
def pkB (np nk nd : Nat) : Pk → Bool
  | .u i => decide (i < np)
  | .w i => decide (i < nk)
  | .d i => decide (i < nd)
theorem vals_get {vs : List V} {us : List Value} (h : Vals vs us) : ∀ i : Nat, (vs[i]? = none ∧ us[i]? = none) ∨ ∃ v u, vs[i]? = some v ∧ us[i]? = some u ∧ RelV v u := by
  induction h with
  | nil => exact fun i => .inl ⟨by simp, by simp⟩
  | cons r _ ih =>
    intro i
    cases i with
    | zero => exact .inr ⟨_, _, rfl, rfl, r⟩
    | succ i => simpa using ih i
theorem pkg_rel {vs ds zs : List V} {us its ws : List Value} (h1 : Vals vs us) (h2 : Vals ds its) (h3 : Vals zs ws) : ∀ l : List Pk, Vals (pkg l vs ds zs) (pkg l us its ws)
  | [] => .nil
  | p :: l => by
    have ih := pkg_rel h1 h2 h3 l
    have key : (pk1 vs ds zs p = none ∧ pk1 us its ws p = none) ∨ ∃ v u, pk1 vs ds zs p = some v ∧ pk1 us its ws p = some u ∧ RelV v u := by
      cases p with
      | u i => exact vals_get h1 i
      | w i => exact vals_get h3 i
      | d i => exact vals_get h2 i
    unfold pkg at ih ⊢
    rcases key with ⟨a, b⟩ | ⟨v, u, a, b, r⟩
    · rw [List.filterMap_cons_none a, List.filterMap_cons_none b]
      exact ih
    · rw [List.filterMap_cons_some a, List.filterMap_cons_some b]
      exact .cons r ih
theorem pkg_rep {np nk : Nat} {dv : List Val} {dvs : List V} {I : XI} {K : PySem.W.Frag} {H : Hp} {R : Addr → Prop} {μ : List Addr} (hd : RepVs I K H R μ dv dvs) {pv : List Val} {vs zs : List V} (h : RepVs I K H R μ pv (vs ++ zs)) (l1 : vs.length = np) (l2 : zs.length = nk) :
    ∀ l : List Pk, l.all (pkB np nk dv.length) = true → ∃ qs, srcVs pv (l.map (pkS np dv)) = some qs ∧ qs.length = l.length ∧ RepVs I K H R μ qs (pkg l vs dvs zs)
  | [], _ => ⟨[], rfl, rfl, rfl⟩
  | p :: l, hv => by
    rw [List.all_cons, Bool.and_eq_true] at hv
    obtain ⟨qs, e1, e2, e3⟩ := pkg_rep hd h l1 l2 l hv.2
    have hl := RepVs.length h
    rw [List.length_append] at hl
    have key : ∃ q v, srcV pv (pkS np dv p) = some q ∧ pk1 vs dvs zs p = some v ∧ RepV I K H R μ q v := by
      cases p with
      | u i =>
        have hi : i < np := of_decide_eq_true hv.1
        have hp : i < pv.length := by omega
        obtain ⟨v, g1, g2⟩ := RepVs.get h (List.getElem?_eq_getElem hp)
        rw [List.getElem?_append_left (by omega)] at g1
        exact ⟨_, v, List.getElem?_eq_getElem hp, g1, g2⟩
      | w i =>
        have hi : i < nk := of_decide_eq_true hv.1
        have hp : np + i < pv.length := by omega
        obtain ⟨v, g1, g2⟩ := RepVs.get h (List.getElem?_eq_getElem hp)
        rw [List.getElem?_append_right (by omega), l1, Nat.add_sub_cancel_left] at g1
        exact ⟨_, v, List.getElem?_eq_getElem hp, g1, g2⟩
      | d i =>
        have hi : i < dv.length := of_decide_eq_true hv.1
        obtain ⟨v, g1, g2⟩ := RepVs.get hd (List.getElem?_eq_getElem hi)
        exact ⟨_, v, rfl, g1, by rw [List.getD_eq_getElem?_getD, List.getElem?_eq_getElem hi]; exact g2⟩
    obtain ⟨q, v, k1, k2, k3⟩ := key
    refine ⟨q :: qs, ?_, by rw [List.length_cons, List.length_cons, e2], ?_⟩
    · rw [List.map_cons]
      unfold srcVs
      rw [k1, e1]
    · unfold pkg at e3 ⊢
      rw [List.filterMap_cons_some k2]
      exact ⟨v, _, rfl, k3, e3⟩
theorem fk_dfl {p : FD} {f : String} {np : Nat} {ks : List Str} {l : List Pk} {dv : List Val} {src : List Src} (hsrc : l.map (pkS np dv) = src) (hv : l.all (pkB np ks.length dv.length) = true) (hne : p.d.dfl ≠ []) (hlen : l.length = p.np) (hdv : ∀ (I : XI) (K K' : PySem.W.Frag) (H : Hp) (R : Addr → Prop) (μ : List Addr), RepVs I K' H R μ dv (p.d.dvs K))
    (h : ∀ (T : Addr) (kV doc pm : Value) (an : Option Addr) (cdv ct : Value) (us its ws : List Value), us.length = np → its.length = p.d.dfl.length → ws.length = ks.length →
      ∃ k, bindArgs (PySem.W.fnOf p.d.name p.d.qual p.d.params p.d.body p.d.scope (.ref T) kV doc pm an cdv ct) ⟨us, ks.zip ws⟩ = seqItems? (.ref T) >>= k ∧ k (some its.toArray) = pure ((p.N.take p.np).zip (pkg l us its ws))) : FkP (f, np, ks, src) p := fun K a fd F => by
  have hd : p.d.dvs K ≠ [] := fun e => hne (by have z := congrArg List.length e; unfold He.DefD.dvs at z; rw [List.length_map] at z; exact List.eq_nil_of_length_eq_zero z)
  have hl : (p.d.dvs K).length = p.d.dfl.length := by unfold He.DefD.dvs; rw [List.length_map]
  obtain ⟨its, k⟩ := F.kbindsD np ks (fun {α} us its ws => pkg l us its ws) hd (fun r1 r2 r3 => pkg_rel r1 r2 r3 l) fun T kV doc pm an cdv ct us its ws h1 h2 h3 => h T kV doc pm an cdv ct us its ws h1 (h2.trans hl) h3
  refine ⟨_, _, k, fun I K' H R μ pv vs zs hr e1 e2 => ?_⟩
  obtain ⟨qs, z1, z2, z3⟩ := pkg_rep (hdv I K K' H R μ) hr e1 e2 l hv
  exact ⟨qs, by rw [← hsrc]; exact z1, z2.trans hlen, z3⟩
theorem fk_no {p : FD} {f : String} {np : Nat} {ks : List Str} {l : List Pk} {src : List Src} (hsrc : l.map (pkS np []) = src) (hv : l.all (pkB np ks.length 0) = true) (hne : p.d.dfl = []) (hlen : l.length = p.np)
    (h : ∀ (kV doc pm : Value) (an : Option Addr) (cdv ct : Value) (us ws : List Value), us.length = np → ws.length = ks.length →
      bindArgs (PySem.W.fnOf p.d.name p.d.qual p.d.params p.d.body p.d.scope .none kV doc pm an cdv ct) ⟨us, ks.zip ws⟩ = pure ((p.N.take p.np).zip (pkg l us [] ws))) : FkP (f, np, ks, src) p := fun K a fd F => by
  have hd : p.d.dvs K = [] := by unfold He.DefD.dvs; rw [hne]; rfl
  rw [hd] at F
  obtain ⟨oc, od, dV, kV, doc, pm, an, cdv, ct, osl, rfl, lk, hcd, hD, hK⟩ := F.ex
  rcases hD with ⟨_, rfl⟩ | ⟨e, _⟩
  · refine ⟨fun us ws => pkg l us [] ws, fun vs zs => pkg l vs [] zs, ⟨fun s us ws X l1 l2 => .of_eq (h kV doc pm an cdv ct us ws l1 l2), fun r1 r2 => pkg_rel r1 .nil r2 l⟩, fun I K' H R μ pv vs zs hr e1 e2 => ?_⟩
    obtain ⟨qs, z1, z2, z3⟩ := pkg_rep (dv := []) (dvs := []) (rfl : RepVs I K' H R μ [] []) hr e1 e2 l hv
    exact ⟨qs, by rw [← hsrc]; exact z1, z2.trans hlen, z3⟩
  · exact absurd rfl e
/-- all parameters written, though there are defaults -/
theorem bind_dfl {q : FD} (hne : q.d.dfl ≠ []) (hl : (q.N.take q.np).length = q.np)
    (h : ∀ (T : Addr) (kV doc pm : Value) (an : Option Addr) (cdv ct : Value) (us its : List Value), us.length = q.np → its.length = q.d.dfl.length →
      ∃ k, bindArgs (PySem.W.fnOf q.d.name q.d.qual q.d.params q.d.body q.d.scope (.ref T) kV doc pm an cdv ct) ⟨us, []⟩ = seqItems? (.ref T) >>= k ∧ k (some its.toArray) = pure ((q.N.take q.np).zip us)) : q.bind := fun K f fd F => by
  have hd : q.d.dvs K ≠ [] := fun e => hne (by have z := congrArg List.length e; unfold He.DefD.dvs at z; rw [List.length_map] at z; exact List.eq_nil_of_length_eq_zero z)
  have hl2 : (q.d.dvs K).length = q.d.dfl.length := by unfold He.DefD.dvs; rw [List.length_map]
  obtain ⟨ds, r, b⟩ := F.binds1 (ps := q.N.take q.np) q.np (q.d.dvs K).length hd (by omega) fun T kV doc pm an cdv ct us its h1 h2 => by
    obtain ⟨k, e1, e2⟩ := h T kV doc pm an cdv ct us its h1 (h2.trans hl2)
    exact ⟨k, e1, by rw [e2, ← h2, List.drop_length, List.append_nil]⟩
  rw [List.drop_length] at r
  cases r
  exact b
theorem HD.kw_of {h : HD} (hn : h.ok = true) (hq : ∀ q ∈ h.fks, ∃ p ∈ h.fds, p.f = q.1 ∧ FkP q p) : h.kw := fun q hq1 p hp e => by
  obtain ⟨p2, h1, h2, h3⟩ := hq q hq1
  unfold HD.ok at hn
  rw [Bool.and_eq_true, Bool.and_eq_true, Bool.and_eq_true] at hn
  have nd := of_decide_eq_true hn.1.1.2
  have a := find_fd nd hp
  have b := find_fd nd h1
  rw [e] at a
  rw [h2] at b
  rw [a] at b
  cases b
  exact h3
end Pi

end
section
set_option linter.all false
set_option maxRecDepth 100000
/-! PiR: what the common defs come to (plain). -/
namespace Pi
open PySem
namespace Co
def fn__law_dip : Fn := ⟨2, 3, [.asg (.v 2) (.ite (.cmp .lt (.lv 1) (.bi .len [(.lv 0)])) (.ix (.lv 0) (.lv 1)) (.cst (.int 0))),
  .ret (.box [(.bin .mul (.bi .abs [(.lv 2)]) (.bi .int [(.cmp .ge (.bi .abs [(.lv 2)]) (.bin .pow (.cst (.int 10)) (.cst (.int 18))))])), (.bin .add (.bin .add (.bin .mod (.lv 2) (.cst (.int 2305843009213693951))) (.bin .mul (.cst (.int 39373)) (.lv 1))) (.cst (.int 17))), (.cst (.int 0))])]⟩
def fn__law_take : Fn := ⟨2, 5, [.ite (.cmp .gt (.ix (.lv 0) (.cst (.int 0))) (.cst (.int 0))) [.asg (.v 2) (.bin .mod (.ix (.lv 0) (.cst (.int 0))) (.lv 1)), .setB (.lv 0) (.cst (.int 0)) (.bin .fdiv (.ix (.lv 0) (.cst (.int 0))) (.lv 1)), .ret (.lv 2)] [],
  .setB (.lv 0) (.cst (.int 2)) (.bin .add (.ix (.lv 0) (.cst (.int 2))) (.cst (.int 1))),
  .asg (.v 3) (.bin .mod (.bin .pow (.bin .add (.ix (.lv 0) (.cst (.int 1))) (.bin .mul (.cst (.int 39373)) (.ix (.lv 0) (.cst (.int 2))))) (.cst (.int 5))) (.cst (.int 2147483647))),
  .asg (.v 4) (.bin .mod (.bin .mul (.bin .add (.bin .add (.lv 3) (.ix (.lv 0) (.cst (.int 2)))) (.bin .fdiv (.ix (.lv 0) (.cst (.int 1))) (.cst (.int 1000003)))) (.bin .add (.bin .add (.bin .mod (.lv 3) (.cst (.int 40009))) (.cst (.int 7))) (.ix (.lv 0) (.cst (.int 2))))) (.cst (.int 2147483629))),
  .ret (.bin .mod (.bin .fdiv (.bin .mod (.bin .add (.bin .mul (.lv 4) (.cst (.int 48271))) (.lv 3)) (.cst (.int 2147483587))) (.cst (.int 64))) (.lv 1))]⟩
def fn__law_folded : Fn := ⟨2, 5, [.own 2 (.bi .list [(.sl (.lv 0) [] [(.lv 1)])]),
  .forr 5 [(.sl (.lv 0) [(.lv 1)] [(.cst (.int 63))])] (.tup [(.v 3), (.v 4)]) [.setL 2 (.bin .mod (.lv 3) (.lv 1)) (.bin .add (.ix (.lv 2) (.bin .mod (.lv 3) (.lv 1))) (.bin .mul (.lv 4) (.bin .add (.lv 3) (.cst (.int 2)))))],
  .share 2,
  .ret (.lv 2)]⟩
def fn__law_same : Fn := ⟨2, 4, [.ite (.isa (.lv 1) [.lst, .tup]) [.ite (.or [(.cmp .ne (.isa (.lv 0) [.lst]) (.isa (.lv 1) [.lst])), (.cmp .ne (.isa (.lv 0) [.tup]) (.isa (.lv 1) [.tup]))]) [.ret (.cst (.bl false))] [], .ret (.and [(.cmp .eq (.bi .len [(.lv 0)]) (.bi .len [(.lv 1)])), (.bi .all [(.comp 4 [(.lv 0), (.lv 1)] (.tup [(.v 2), (.v 3)]) [] (.call "_law_same" [(.lv 2), (.lv 3)]))])])] [],
  .ite (.or [(.cmp .isn (.lv 1) (.cst .non)), (.cmp .isn (.lv 0) (.cst .non))]) [.ret (.and [(.cmp .isn (.lv 1) (.cst .non)), (.cmp .isn (.lv 0) (.cst .non))])] [],
  .ite (.or [(.isa (.lv 1) [.bool]), (.isa (.lv 1) [.str])]) [.ret (.and [(.cmp .eq (.isa (.lv 0) [.bool]) (.isa (.lv 1) [.bool])), (.cmp .eq (.lv 0) (.lv 1))])] [],
  .ret (.and [(.isa (.lv 0) [.int]), (.not (.isa (.lv 0) [.bool])), (.cmp .eq (.lv 0) (.lv 1))])]⟩
end Co

@[simp] theorem bv_addI (a b : Int) : binV .add (.int a) (.int b) = some (.int (a + b)) := rfl
@[simp] theorem bv_subI (a b : Int) : binV .sub (.int a) (.int b) = some (.int (a - b)) := rfl
theorem bv_addS {a b : Str} (h : a.length + b.length ≤ lim) : binV .add (.str a) (.str b) = some (.str (a ++ b)) := if_pos h
theorem bv_addL {a b : List Val} (h : a.length + b.length ≤ lim) : binV .add (.lst a) (.lst b) = some (.lst (a ++ b)) := if_pos h
theorem bv_addT {a b : List Val} (h : a.length + b.length ≤ lim) : binV .add (.tup a) (.tup b) = some (.tup (a ++ b)) := if_pos h
theorem bv_mulI {a b : Int} (h : fitMul a b = true) : binV .mul (.int a) (.int b) = some (.int (a * b)) := if_pos h
theorem bv_mod {a b : Int} (h : 0 < b) : binV .mod (.int a) (.int b) = some (.int (a % b)) := by
  have : b ≠ 0 := by omega
  show (if b = 0 then none else some (Val.int (a.fmod b))) = _
  rw [if_neg this, Int.fmod_eq_emod_of_nonneg _ (Int.le_of_lt h)]
theorem bv_div {a b : Int} (h : 0 < b) (h2 : b < 9223372036854775808) : binV .fdiv (.int a) (.int b) = some (.int (a / b)) := by
  have l : b.natAbs.log2 < 64 := (Nat.log2_lt (by omega)).mpr (by omega)
  show (if b = 0 ∨ 9000 ≤ b.natAbs.log2 then none else some (Val.int (a.fdiv b))) = _
  rw [if_neg (by omega), Int.fdiv_eq_ediv_of_nonneg _ (Int.le_of_lt h)]
theorem bv_pow {a : Int} {n : Nat} (h : a.natAbs < 2 ^ 64) (h2 : n ≤ 1000000) : binV .pow (.int a) (.int n) = some (.int (a ^ n)) := by
  show (if 0 ≤ (n : Int) ∧ (n : Int) ≤ 1000000 ∧ a.natAbs < 2 ^ 64 then some (Val.int (a ^ (n : Int).toNat)) else none) = _
  rw [if_pos ⟨by omega, by omega, h⟩]
  rfl
theorem fit_r {a b : Int} (h : -18446744073709551616 < b) (h2 : b < 18446744073709551616) : fitMul a b = true := by
  unfold fitMul
  simp only [Bool.or_eq_true, decide_eq_true_eq]
  exact .inl (.inr (by omega))
theorem fit_l {a b : Int} (h : -18446744073709551616 < a) (h2 : a < 18446744073709551616) : fitMul a b = true := by
  unfold fitMul
  simp only [Bool.or_eq_true, decide_eq_true_eq]
  exact .inl (.inl (by omega))
section
variable {sg : Sig} {cf : String → List Val → Store → Res Val}
@[simp] theorem evE_q0 {ρ : Env} {S : Store}  : evE sg cf ρ (.lv i) S = (match ρ[i]? with
    | some (some v) => .ok v S
    | _ => .bad) := by first | (simp only [evE]; done) | (simp only [evE]; rfl)
@[simp] theorem evE_q1 {ρ : Env} {S : Store}  : evE sg cf ρ (.cst v) S = .ok v S := by first | (simp only [evE]; done) | (simp only [evE]; rfl)
@[simp] theorem evE_q2 {ρ : Env} {S : Store}  : evE sg cf ρ (.gv w0 v) S = .ok v S := by first | (simp only [evE]; done) | (simp only [evE]; rfl)
@[simp] theorem evE_q3 {ρ : Env} {S : Store}  : evE sg cf ρ (.bin o a b) S = (evE sg cf ρ a S).bind fun x S1 => (evE sg cf ρ b S1).bind fun y S2 => .of (binV o x y) S2 := by first | (simp only [evE]; done) | (simp only [evE]; rfl)
@[simp] theorem evE_q4 {ρ : Env} {S : Store}  : evE sg cf ρ (.neg a) S = (evE sg cf ρ a S).bind fun x S1 => (match x with
    | .int i => .ok (.int (-i)) S1
    | _ => .bad) := by first | (simp only [evE]; done) | (simp only [evE]; rfl)
@[simp] theorem evE_q5 {ρ : Env} {S : Store}  : evE sg cf ρ (.cmp o a b) S = (evE sg cf ρ a S).bind fun x S1 => (evE sg cf ρ b S1).bind fun y S2 => .of ((cmpV o x y).map .bl) S2 := by first | (simp only [evE]; done) | (simp only [evE]; rfl)
@[simp] theorem evE_q6 {ρ : Env} {S : Store}  : evE sg cf ρ (.chain o1 o2 a b c) S = (evE sg cf ρ a S).bind fun x S1 => (evE sg cf ρ b S1).bind fun y S2 => (match cmpV o1 x y with
    | some true => (evE sg cf ρ c S2).bind fun z S3 => .of ((cmpV o2 y z).map .bl) S3
    | some false => .ok (.bl false) S2
    | none => .bad) := by first | (simp only [evE]; done) | (simp only [evE]; rfl)
@[simp] theorem evE_q7 {ρ : Env} {S : Store}  : evE sg cf ρ (.not a) S = (evE sg cf ρ a S).bind fun v S1 => .of ((truV v).map fun b => .bl (!b)) S1 := by first | (simp only [evE]; done) | (simp only [evE]; rfl)
@[simp] theorem evE_q8 {ρ : Env} {S : Store}  : evE sg cf ρ (.and es) S = evAnd sg cf ρ es S := by first | (simp only [evE]; done) | (simp only [evE]; rfl)
@[simp] theorem evE_q9 {ρ : Env} {S : Store}  : evE sg cf ρ (.or es) S = evOr sg cf ρ es S := by first | (simp only [evE]; done) | (simp only [evE]; rfl)
@[simp] theorem evE_q10 {ρ : Env} {S : Store}  : evE sg cf ρ (.ite c a b) S = (evE sg cf ρ c S).bind fun v S1 => (match truV v with
    | some true => evE sg cf ρ a S1
    | some false => evE sg cf ρ b S1
    | none => .bad) := by first | (simp only [evE]; done) | (simp only [evE]; rfl)
@[simp] theorem evE_q11 {ρ : Env} {S : Store}  : evE sg cf ρ (.tup es) S = (evEs sg cf ρ es S).bind fun vs S1 => .ok (.tup vs) S1 := by first | (simp only [evE]; done) | (simp only [evE]; rfl)
@[simp] theorem evE_q12 {ρ : Env} {S : Store}  : evE sg cf ρ (.lst es) S = (evEs sg cf ρ es S).bind fun vs S1 => .ok (.lst vs) S1 := by first | (simp only [evE]; done) | (simp only [evE]; rfl)
@[simp] theorem evE_q13 {ρ : Env} {S : Store}  : evE sg cf ρ (.box es) S = (evEs sg cf ρ es S).bind fun vs S1 => .ok (.loc S1.length) (S1 ++ [.lst vs]) := by first | (simp only [evE]; done) | (simp only [evE]; rfl)
@[simp] theorem evE_q14 {ρ : Env} {S : Store}  : evE sg cf ρ (.ix a i) S = (evE sg cf ρ a S).bind fun x S1 => (evE sg cf ρ i S1).bind fun y S2 => .of (ixV S2 x y) S2 := by first | (simp only [evE]; done) | (simp only [evE]; rfl)
@[simp] theorem evE_q15 {ρ : Env} {S : Store}  : evE sg cf ρ (.sl a lo hi) S = (evE sg cf ρ a S).bind fun x S1 => (evO sg cf ρ lo S1).bind fun l S2 => (evO sg cf ρ hi S2).bind fun h S3 => .of (slV S3 x l h) S3 := by first | (simp only [evE]; done) | (simp only [evE]; rfl)
@[simp] theorem evE_q16 {ρ : Env} {S : Store}  : evE sg cf ρ (.call f es) S = (evEs sg cf ρ es S).bind fun vs S1 => cf f vs S1 := by first | (simp only [evE]; done) | (simp only [evE]; rfl)
@[simp] theorem evE_q17 {ρ : Env} {S : Store}  : evE sg cf ρ (.callB f es w0 src) S = (evEs sg cf ρ es S).bind fun vs S1 => (match srcVs vs src with
    | some ws => cf f ws S1
    | none => .bad) := by first | (simp only [evE]; done) | (simp only [evE]; rfl)
@[simp] theorem evE_q18 {ρ : Env} {S : Store}  : evE sg cf ρ (.bi b es) S = (evEs sg cf ρ es S).bind fun vs S1 => .of (biV S1 b vs) S1 := by first | (simp only [evE]; done) | (simp only [evE]; rfl)
@[simp] theorem evE_cmp {ρ : Env} {S : Store} {k : Nat} {its : List IE} {p : Pat} {cs : List IE} {e : IE} : evE sg cf ρ (.comp k its p cs e) S = ((evEs sg cf ρ its S).bind fun vs S1 => .of (itV S1 k vs) S1).bind fun xs S1 => (compGo (compF sg cf p cs e ρ) xs S1).bind fun ys S2 => if ys.length ≤ lim then .ok (.lst ys) S2 else .bad := by first | (simp only [evE]; done) | (simp only [evE]; rfl)
@[simp] theorem evE_q20 {ρ : Env} {S : Store}  : evE sg cf ρ (.comp2 k its p k2 its2 p2 cs e) S = ((evEs sg cf ρ its S).bind fun vs S1 => .of (itV S1 k vs) S1).bind fun xs S1 =>
    (compGo (fun v S2 => (match bindP p v (wipeE (wipeE ρ p.vars) p2.vars) with
      | some ρ' => ((evEs sg cf ρ' its2 S2).bind fun ws S3 => .of (itV S3 k2 ws) S3).bind fun ys S3 =>
          compGo (fun u S4 => (match bindP p2 u ρ' with
          | some ρ2 => (evTs sg cf ρ2 cs S4).bind fun c S5 => if c then (evE sg cf ρ2 e S5).bind fun y S6 => .ok [y] S6 else .ok [] S5
          | none => .bad)) ys S3
      | none => .bad)) xs S1).bind fun ys S2 => if ys.length ≤ lim then .ok (.lst ys) S2 else .bad := by first | (simp only [evE]; done) | (simp only [evE]; rfl)
@[simp] theorem evE_q21 {ρ : Env} {S : Store}  : evE sg cf ρ (.isa e ts) S = (evE sg cf ρ e S).bind fun v S1 => .of ((isasV sg.eb v ts).map .bl) S1 := by first | (simp only [evE]; done) | (simp only [evE]; rfl)
@[simp] theorem evE_q22 {ρ : Env} {S : Store}  : evE sg cf ρ (.mkx c e) S = (evE sg cf ρ e S).bind fun v S1 => .ok (.exn c v) S1 := by first | (simp only [evE]; done) | (simp only [evE]; rfl)
@[simp] theorem evE_q23 {ρ : Env} {S : Store}  : evE sg cf ρ (.fldx e f) S = (evE sg cf ρ e S).bind fun v S1 => (match v with
    | .exn c x => if sg.xf c = some f then .ok x S1 else .bad
    | _ => .bad) := by first | (simp only [evE]; done) | (simp only [evE]; rfl)
@[simp] theorem evE_q26 {ρ : Env} {S : Store}  : evE sg cf ρ (.isx e n) S = (evE sg cf ρ e S).bind fun v S1 => (match v with
    | .exn c _ => .of ((undX sg.eb c n).map .bl) S1
    | _ => .bad) := by first | (simp only [evE]; done) | (simp only [evE]; rfl)
@[simp] theorem evE_q24 {ρ : Env} {S : Store}  : evE sg cf ρ (.fld e f) S = (evE sg cf ρ e S).bind fun v S1 => (match v with
    | .loc n => (match S1[n]? with
      | some (.ins _ fs) => .of (fs.lookup f) S1
      | _ => .bad)
    | _ => .bad) := by first | (simp only [evE]; done) | (simp only [evE]; rfl)
@[simp] theorem evE_q27 {ρ : Env} {S : Store} {ks : List Str} {es : List IE} : evE sg cf ρ (.dctE ks es) S = (evEs sg cf ρ es S).bind fun vs S1 => if ks.Nodup ∧ ks.length = vs.length ∧ 0 < ks.length ∧ ks.length ≤ 15 then .ok (.dct ks vs) S1 else .bad := by first | (simp only [evE]; done) | (simp only [evE]; rfl)
@[simp] theorem evE_q28 {ρ : Env} {S : Store} {d k : IE} {x : List IE} : evE sg cf ρ (.dget d k x) S = (evE sg cf ρ d S).bind fun v S1 => (match v with
    | .dct ks vs => (evE sg cf ρ k S1).bind fun u S2 => (match u with
      | .str y => (evEs sg cf ρ x S2).bind fun ws S3 => .of (dgetV ks vs y ws) S3
      | _ => .bad)
    | _ => .bad) := by first | (simp only [evE]; done) | (simp only [evE]; rfl)
@[simp] theorem evE_q29 {ρ : Env} {S : Store} {d k : IE} : evE sg cf ρ (.dsub d k) S = (evE sg cf ρ d S).bind fun v S1 => (match v with
    | .dct ks vs => (evE sg cf ρ k S1).bind fun u S2 => (match u with
      | .str y => .of (lookK ks vs y) S2
      | _ => .bad)
    | _ => .bad) := by first | (simp only [evE]; done) | (simp only [evE]; rfl)
@[simp] theorem evE_q31 {ρ : Env} {S : Store} {o : IE} : evE sg cf ρ (.sm0 o) S = (evE sg cf ρ o S).bind fun v S1 => (match v with
    | .str a => if a.length ≤ 5592405 ∧ okS (Txt.upper a) = true then .ok (.str (Txt.upper a)) S1 else .bad
    | _ => .bad) := by first | (simp only [evE]; done) | (simp only [evE]; rfl)
@[simp] theorem evE_q32 {ρ : Env} {S : Store} {a : IE} : evE sg cf ρ (.rev a) S = (evE sg cf ρ a S).bind fun v S1 => (match v with
    | .lst l => .ok (.lst l.reverse) S1
    | _ => .bad) := by first | (simp only [evE]; done) | (simp only [evE]; rfl)
@[simp] theorem evE_q33 {ρ : Env} {S : Store} {es : List IE} : evE sg cf ρ (.lrg es) S = (evEs sg cf ρ es S).bind fun vs S1 => .of (lrgV vs) S1 := by first | (simp only [evE]; done) | (simp only [evE]; rfl)
@[simp] theorem evE_q30 {ρ : Env} {S : Store} {m : Sm} {o e : IE} : evE sg cf ρ (.sm1 m o e) S = (evE sg cf ρ o S).bind fun v S1 => (match v with
    | .str a => (evE sg cf ρ e S1).bind fun w S2 => (match w with
      | .str b => .of (smV m a b) S2
      | _ => .bad)
    | _ => .bad) := by first | (simp only [evE]; done) | (simp only [evE]; rfl)
@[simp] theorem evE_q25 {ρ : Env} {S : Store}  : evE sg cf ρ (.dix w0 kvs k) S = (evE sg cf ρ k S).bind fun v S1 => (match v with
    | .str x => .of (kvs.lookup x) S1
    | _ => .bad) := by first | (simp only [evE]; done) | (simp only [evE]; rfl)
@[simp] theorem evEs_q0 {ρ : Env} {S : Store}  : evEs sg cf ρ ([]) S = .ok [] S := by first | (simp only [evEs]; done) | (simp only [evEs]; rfl)
@[simp] theorem evEs_q1 {ρ : Env} {S : Store}  : evEs sg cf ρ (e :: es) S = (evE sg cf ρ e S).bind fun v S1 => (evEs sg cf ρ es S1).bind fun vs S2 => .ok (v :: vs) S2 := by first | (simp only [evEs]; done) | (simp only [evEs]; rfl)
@[simp] theorem evO_q0 {ρ : Env} {S : Store}  : evO sg cf ρ ([]) S = .ok none S := by first | (simp only [evO]; done) | (simp only [evO]; rfl)
@[simp] theorem evO_q1 {ρ : Env} {S : Store}  : evO sg cf ρ (e :: w0) S = (evE sg cf ρ e S).bind fun v S1 => (match v with
    | .int i => .ok (some i) S1
    | _ => .bad) := by first | (simp only [evO]; done) | (simp only [evO]; rfl)
@[simp] theorem evAnd_q0 {ρ : Env} {S : Store}  : evAnd sg cf ρ ([]) S = .bad := by first | (simp only [evAnd]; done) | (simp only [evAnd]; rfl)
@[simp] theorem evAnd_q1 {ρ : Env} {S : Store}  : evAnd sg cf ρ (e :: es) S = (evE sg cf ρ e S).bind fun v S1 => (match es with
    | [] => .ok v S1
    | _ :: _ => (match v with
      | .bl true => evAnd sg cf ρ es S1
      | .bl false => .ok (.bl false) S1
      | _ => .bad)) := by first | (simp only [evAnd]; done) | (simp only [evAnd]; rfl)
@[simp] theorem evOr_q0 {ρ : Env} {S : Store}  : evOr sg cf ρ ([]) S = .bad := by first | (simp only [evOr]; done) | (simp only [evOr]; rfl)
@[simp] theorem evOr_q1 {ρ : Env} {S : Store}  : evOr sg cf ρ (e :: es) S = (evE sg cf ρ e S).bind fun v S1 => (match es with
    | [] => .ok v S1
    | _ :: _ => (match v with
      | .bl false => evOr sg cf ρ es S1
      | .bl true => .ok (.bl true) S1
      | _ => .bad)) := by first | (simp only [evOr]; done) | (simp only [evOr]; rfl)
@[simp] theorem evTs_q0 {ρ : Env} {S : Store}  : evTs sg cf ρ ([]) S = .ok true S := by first | (simp only [evTs]; done) | (simp only [evTs]; rfl)
@[simp] theorem evTs_q1 {ρ : Env} {S : Store}  : evTs sg cf ρ (e :: es) S = (evE sg cf ρ e S).bind fun v S1 => (match truV v with
    | some true => evTs sg cf ρ es S1
    | some false => .ok false S1
    | none => .bad) := by first | (simp only [evTs]; done) | (simp only [evTs]; rfl)
@[simp] theorem evS_q0 {ρ : Env} {S : Store}  : evS sg cf (.expr e) ρ S = (evE sg cf ρ e S).on ρ fun _ S1 => .nx ρ S1 := by first | (simp only [evS]; done) | (simp only [evS]; rfl)
@[simp] theorem evS_q1 {ρ : Env} {S : Store}  : evS sg cf (.asg p e) ρ S = (evE sg cf ρ e S).on ρ fun v S1 => (match bindP p v ρ with
    | some ρ' => .nx ρ' S1
    | none => .bad) := by first | (simp only [evS]; done) | (simp only [evS]; rfl)
@[simp] theorem evS_q2 {ρ : Env} {S : Store}  : evS sg cf (.own i e) ρ S = (evE sg cf ρ e S).on ρ fun v S1 => (match v with
    | .lst l => .nx (setE ρ i (.lst l)) S1
    | _ => .bad) := by first | (simp only [evS]; done) | (simp only [evS]; rfl)
@[simp] theorem evS_q3 {ρ : Env} {S : Store}  : evS sg cf (.share w0) ρ S = .nx ρ S := by first | (simp only [evS]; done) | (simp only [evS]; rfl)
@[simp] theorem evS_q4 {ρ : Env} {S : Store}  : evS sg cf (.par is es) ρ S = (evEs sg cf ρ es S).on ρ fun vs S1 => (match parE is vs ρ with
    | some ρ' => .nx ρ' S1
    | none => .bad) := by first | (simp only [evS]; done) | (simp only [evS]; rfl)
@[simp] theorem evS_q5 {ρ : Env} {S : Store}  : evS sg cf (.aug i o e) ρ S = (match ρ[i]? with
    | some (some x) => (evE sg cf ρ e S).on ρ fun y S1 => (match augV o x y with
      | some z => .nx (setE ρ i z) S1
      | none => .bad)
    | _ => .bad) := by first | (simp only [evS]; done) | (simp only [evS]; rfl)
@[simp] theorem evS_q6 {ρ : Env} {S : Store}  : evS sg cf (.setL i k e) ρ S = (match lstE ρ i with
    | some l => (evE sg cf ρ e S).on ρ fun v S1 => (evE sg cf ρ k S1).on ρ fun j S2 => (match j with
      | .int j => (match ixN l.length j with
        | some n => .nx (setE ρ i (.lst (l.set n v))) S2
        | none => .bad)
      | _ => .bad)
    | none => .bad) := by first | (simp only [evS]; done) | (simp only [evS]; rfl)
@[simp] theorem evS_q7 {ρ : Env} {S : Store}  : evS sg cf (.setB b k e) ρ S = (evE sg cf ρ e S).on ρ fun v S1 => (evE sg cf ρ b S1).on ρ fun x S2 => (evE sg cf ρ k S2).on ρ fun j S3 => (match x, j with
    | .loc n, .int j => (match S3[n]? with
      | some (.lst l) => (match ixN l.length j with
        | some m => .nx ρ (S3.set n (.lst (l.set m v)))
        | none => .bad)
      | _ => .bad)
    | _, _ => .bad) := by first | (simp only [evS]; done) | (simp only [evS]; rfl)
@[simp] theorem evS_q8 {ρ : Env} {S : Store}  : evS sg cf (.app i e) ρ S = (match lstE ρ i with
    | some l => (evE sg cf ρ e S).on ρ fun v S1 => if l.length < lim then .nx (setE ρ i (.lst (l ++ [v]))) S1 else .bad
    | none => .bad) := by first | (simp only [evS]; done) | (simp only [evS]; rfl)
@[simp] theorem evS_q9 {ρ : Env} {S : Store}  : evS sg cf (.pop i k) ρ S = (match lstE ρ i with
    | some l => (evO sg cf ρ k S).on ρ fun n S1 => (match popL l n with
      | some (_, l') => .nx (setE ρ i (.lst l')) S1
      | none => .bad)
    | none => .bad) := by first | (simp only [evS]; done) | (simp only [evS]; rfl)
@[simp] theorem evS_q10 {ρ : Env} {S : Store}  : evS sg cf (.popTo j i k) ρ S = (match lstE ρ i with
    | some l => (evO sg cf ρ k S).on ρ fun n S1 => (match popL l n with
      | some (v, l') => .nx (setE (setE ρ i (.lst l')) j v) S1
      | none => .bad)
    | none => .bad) := by first | (simp only [evS]; done) | (simp only [evS]; rfl)
@[simp] theorem evS_q21 {ρ : Env} {S : Store} {i : Nat} {k e : IE} : evS sg cf (.ins i k e) ρ S = (match lstE ρ i with
    | some l => (evE sg cf ρ k S).on ρ fun j S1 => (evE sg cf ρ e S1).on ρ fun v S2 => (match j with
      | .int j => if 0 ≤ j ∧ j < 2 ^ 62 ∧ l.length < lim then .nx (setE ρ i (.lst (l.take j.toNat ++ [v] ++ l.drop j.toNat))) S2 else .bad
      | _ => .bad)
    | none => .bad) := by first | (simp only [evS]; done) | (simp only [evS]; rfl)
@[simp] theorem evS_q22 {ρ : Env} {S : Store} {i : Nat} {k1 k2 e1 e2 : IE} : evS sg cf (.set2 i k1 k2 e1 e2) ρ S = (match lstE ρ i with
    | some l => (evE sg cf ρ (.tup [e1, e2]) S).on ρ fun v S1 => (match v with
      | .tup [v1, v2] => (evE sg cf ρ k1 S1).on ρ fun j1 S2 => (match j1 with
        | .int j1 => (match ixN l.length j1 with
          | some n1 => (evE sg cf (setE ρ i (.lst (l.set n1 v1))) k2 S2).on (setE ρ i (.lst (l.set n1 v1))) fun j2 S3 => (match j2 with
            | .int j2 => (match ixN l.length j2 with
              | some n2 => .nx (setE (setE ρ i (.lst (l.set n1 v1))) i (.lst ((l.set n1 v1).set n2 v2))) S3
              | none => .bad)
            | _ => .bad)
          | none => .bad)
        | _ => .bad)
      | _ => .bad)
    | none => .bad) := by first | (simp only [evS]; done) | (simp only [evS]; rfl)
@[simp] theorem evS_q11 {ρ : Env} {S : Store}  : evS sg cf (.ret e) ρ S = (evE sg cf ρ e S).on ρ fun v S1 => .rt v S1 := by first | (simp only [evS]; done) | (simp only [evS]; rfl)
@[simp] theorem evS_q12 {ρ : Env} {S : Store}  : evS sg cf (.retN) ρ S = .rt .non S := by first | (simp only [evS]; done) | (simp only [evS]; rfl)
@[simp] theorem evS_q13 {ρ : Env} {S : Store}  : evS sg cf (.ite c a b) ρ S = (evT sg cf ρ c S).on ρ fun k S1 => if k then evSs sg cf a ρ S1 else evSs sg cf b ρ S1 := by first | (simp only [evS]; done) | (simp only [evS]; rfl)
@[simp] theorem evS_q14 {ρ : Env} {S : Store}  : evS sg cf (.forr k its p b) ρ S = ((evEs sg cf ρ its S).bind fun vs S1 => .of (itV S1 k vs) S1).on ρ fun xs S1 =>
    forGo (fun v ρ S => (match bindP p v ρ with
      | some ρ' => evSs sg cf b ρ' S
      | none => .bad)) xs ρ S1 := by first | (simp only [evS]; done) | (simp only [evS]; rfl)
@[simp] theorem evS_q15 {ρ : Env} {S : Store}  : evS sg cf (.whil c b) ρ S = whileM (fun ρ S => evT sg cf ρ c S) (fun ρ S => evSs sg cf b ρ S) ρ S := by first | (simp only [evS]; done) | (simp only [evS]; rfl)
@[simp] theorem evS_q16 {ρ : Env} {S : Store}  : evS sg cf (.brk) ρ S = .bk ρ S := by first | (simp only [evS]; done) | (simp only [evS]; rfl)
@[simp] theorem evS_q17 {ρ : Env} {S : Store}  : evS sg cf (.cnt) ρ S = .ct ρ S := by first | (simp only [evS]; done) | (simp only [evS]; rfl)
@[simp] theorem evS_q18 {ρ : Env} {S : Store}  : evS sg cf (.pass) ρ S = .nx ρ S := by first | (simp only [evS]; done) | (simp only [evS]; rfl)
@[simp] theorem evS_q19 {ρ : Env} {S : Store}  : evS sg cf (.raise e) ρ S = (evE sg cf ρ e S).on ρ fun v S1 => (match v with
    | .exn c x => .ex (.exn c x) ρ S1
    | _ => .bad) := by first | (simp only [evS]; done) | (simp only [evS]; rfl)
@[simp] theorem evS_q20 {ρ : Env} {S : Store}  : evS sg cf (.tryx i e c n j) ρ S = (match evE sg cf ρ e S with
    | .ok v S1 => .nx (setE ρ i v) S1
    | .exc (.exn d x) S1 => (match undX sg.eb d c with
      | some true => .nx ((setE (setE ρ n (.exn d x)) j (.exn d x)).set n none) S1
      | some false => .ex (.exn d x) ρ S1
      | none => .bad)
    | _ => .bad) := by first | (simp only [evS]; done) | (simp only [evS]; rfl)
@[simp] theorem evSs_q0 {ρ : Env} {S : Store}  : evSs sg cf ([]) ρ S = .nx ρ S := by first | (simp only [evSs]; done) | (simp only [evSs]; rfl)
@[simp] theorem evSs_q1 {ρ : Env} {S : Store}  : evSs sg cf (s :: r) ρ S = (evS sg cf s ρ S).then fun ρ' S' => evSs sg cf r ρ' S' := by first | (simp only [evSs]; done) | (simp only [evSs]; rfl)
@[simp] theorem evT_q {ρ : Env} {S : Store} {e : IE} : evT sg cf ρ e S = (evE sg cf ρ e S).bind fun v S1 => .of (truV v) S1 := rfl
@[simp] theorem bindP_v {i : Nat} {v : Val} {ρ : Env} : bindP (.v i) v ρ = some (setE ρ i v) := by simp only [bindP]
@[simp] theorem bindP_t {ps : List Pat} {l : List Val} {ρ : Env} : bindP (.tup ps) (.tup l) ρ = if l.length = ps.length then bindPs ps l ρ else none := by simp only [bindP]
@[simp] theorem bindPs_n {ρ : Env} : bindPs [] [] ρ = some ρ := by simp only [bindPs]
@[simp] theorem bindPs_c {p : Pat} {ps : List Pat} {v : Val} {vs : List Val} {ρ : Env} : bindPs (p :: ps) (v :: vs) ρ = (bindP p v ρ).bind fun ρ' => bindPs ps vs ρ' := by simp only [bindPs]
@[simp] theorem setE_q {i : Nat} {v : Val} {ρ : Env} : setE ρ i v = ρ.set i (some v) := rfl
@[simp] theorem set_0 {α : Type} (a b : α) (l : List α) : (a :: l).set 0 b = b :: l := rfl
@[simp] theorem set_s {α : Type} (a b : α) (n : Nat) (l : List α) : (a :: l).set (n + 1) b = a :: l.set n b := rfl
end
section
variable {sg : Sig} {Φ : Tab}
@[simp] def finO : Out → Res Val
  | .nx _ S => .ok .non S
  | .rt v S => .ok v S
  | .ex x _ S => .exc x S
  | _ => .bad
theorem call_eq {f : String} {fn : Fn} {d : Nat} {args : List Val} {S : Store} (h : Φ f = some fn) (hl : args.length = fn.np) :
    callF sg Φ (d + 1) f args S = finO (evSs sg (callF sg Φ d) fn.body (args.map some ++ List.replicate (fn.nl - fn.np) none) S) := by
  simp only [callF, h, hl, if_true]
  cases evSs sg (callF sg Φ d) fn.body (args.map some ++ List.replicate (fn.nl - fn.np) none) S <;> rfl
theorem box_get {n : Nat} {a b c : Int} {S : Store} (h : S[n]? = some (.lst [.int a, .int b, .int c])) : ixV S (.loc n) (.int 0) = some (.int a) ∧ ixV S (.loc n) (.int 1) = some (.int b) ∧ ixV S (.loc n) (.int 2) = some (.int c) := by
  unfold ixV
  simp only [h]
  exact ⟨rfl, rfl, rfl⟩
/-- a box: what was drawn from it m times at most -/
structure Box (S : Store) (n : Nat) (m : Nat) : Prop where
  ex : ∃ a b c : Int, S[n]? = some (.lst [.int a, .int b, .int c]) ∧ 0 ≤ a ∧ 0 ≤ b ∧ b < 4611686018427387904 ∧ 0 ≤ c ∧ c ≤ m
theorem Box.mono {S : Store} {n m m' : Nat} (b : Box S n m) (h : m ≤ m') : Box S n m' := by
  obtain ⟨a, b, c, h1, h2, h3, h4, h5, h6⟩ := b.ex
  exact ⟨a, b, c, h1, h2, h3, h4, h5, by omega⟩
@[simp] theorem gt_int (a b : Int) : cmpV .gt (.int a) (.int b) = some (decide (b < a)) := rfl
@[simp] theorem ge_int (a b : Int) : cmpV .ge (.int a) (.int b) = some (decide (b ≤ a)) := rfl
@[simp] theorem lt_int (a b : Int) : cmpV .lt (.int a) (.int b) = some (decide (a < b)) := rfl
@[simp] theorem le_int (a b : Int) : cmpV .le (.int a) (.int b) = some (decide (a ≤ b)) := rfl
@[simp] theorem tru_bl (b : Bool) : truV (.bl b) = some b := rfl
theorem take_ok {d n m : Nat} {k : Int} {S : Store} (h : Φ "_law_take" = some Co.fn__law_take) (b : Box S n m) (hk : 0 < k) (hk2 : k < 9223372036854775808) (hm : m < 1000000) :
    ∃ r S', callF sg Φ (d + 1) "_law_take" [.loc n, .int k] S = .ok (.int r) S' ∧ 0 ≤ r ∧ r < k ∧ Box S' n (m + 1) ∧ S'.length = S.length ∧ ∀ j, j ≠ n → S'[j]? = S[j]? := by
  obtain ⟨a, b, c, hS, ha, hb, hb2, hc, hc2⟩ := b.ex
  rw [call_eq h rfl]
  obtain ⟨g0, g1, g2⟩ := box_get hS
  have hn : n < S.length := (List.getElem?_eq_some_iff.mp hS).1
  by_cases h0 : 0 < a
  · refine ⟨a % k, S.set n (.lst [.int (a / k), .int b, .int c]), ?_, Int.emod_nonneg _ (by omega), Int.emod_lt_of_pos _ hk, ⟨_, _, _, List.getElem?_set_self hn, Int.ediv_nonneg ha (Int.le_of_lt hk), hb, hb2, hc, by omega⟩, by rw [List.length_set], fun j hj => by rw [List.getElem?_set_ne (Ne.symm hj)]⟩
    simp [Co.fn__law_take, g0, h0, bv_mod hk, bv_div hk hk2, hS, ixN]
  · have hS2 : (S.set n (.lst [.int a, .int b, .int (c + 1)]))[n]? = some (.lst [.int a, .int b, .int (c + 1)]) := List.getElem?_set_self hn
    obtain ⟨f0, f1, f2⟩ := box_get hS2
    have p1 : ∀ x : Int, binV .mul (.int 39373) (.int x) = some (.int (39373 * x)) := fun x => bv_mulI (fit_l (by omega) (by omega))
    have p2 : binV .pow (.int (b + 39373 * (c + 1))) (.int 5) = some (.int ((b + 39373 * (c + 1)) ^ 5)) := bv_pow (n := 5) (by omega) (by omega)
    have p3 : ∀ x : Int, 0 ≤ x → x < 3000000 → ∀ y : Int, binV .mul (.int y) (.int x) = some (.int (y * x)) := fun x h1 h2 y => bv_mulI (fit_r (by omega) (by omega))
    have q1 := Int.emod_nonneg ((b + 39373 * (c + 1)) ^ 5 % 2147483647) (show (40009 : Int) ≠ 0 by omega)
    have q2 := Int.emod_lt_of_pos ((b + 39373 * (c + 1)) ^ 5 % 2147483647) (show (0 : Int) < 40009 by omega)
    have p4 : ∀ y : Int, binV .mul (.int y) (.int ((b + 39373 * (c + 1)) ^ 5 % 2147483647 % 40009 + 7 + (c + 1))) = some (.int (y * ((b + 39373 * (c + 1)) ^ 5 % 2147483647 % 40009 + 7 + (c + 1)))) := p3 _ (by omega) (by omega)
    have p5 : ∀ y : Int, binV .mul (.int y) (.int 48271) = some (.int (y * 48271)) := p3 _ (by omega) (by omega)
    have key : ∃ x : Int, finO (evSs sg (callF sg Φ d) Co.fn__law_take.body ([Val.loc n, Val.int k].map some ++ List.replicate (Co.fn__law_take.nl - Co.fn__law_take.np) none) S) = .ok (.int (x % k)) (S.set n (.lst [.int a, .int b, .int (c + 1)])) := by
      refine ⟨?_, ?_⟩
      rotate_left
      · simp [Co.fn__law_take, g0, g1, g2, f0, f1, f2, h0, bv_mod hk, bv_div, bv_mod, hS, ixN, p1, p2, p4, p5]
        rfl
    obtain ⟨x, key⟩ := key
    exact ⟨_, _, key, Int.emod_nonneg _ (by omega), Int.emod_lt_of_pos _ hk, ⟨_, _, _, hS2, ha, hb, hb2, by omega, by omega⟩, by rw [List.length_set], fun j hj => by rw [List.getElem?_set_ne (Ne.symm hj)]⟩
theorem forGo_inv {f : Val → Env → Store → Out} {P : Nat → Env → Store → Prop} : ∀ {l : List Val} {k : Nat} {ρ : Env} {S : Store}, (∀ i v ρ S, l[i]? = some v → P (k + i) ρ S → ∃ ρ' S', (f v ρ S = .nx ρ' S' ∨ f v ρ S = .ct ρ' S') ∧ P (k + i + 1) ρ' S') → P k ρ S →
    ∃ ρ' S', forGo f l ρ S = .nx ρ' S' ∧ P (k + l.length) ρ' S'
  | [], k, ρ, S, _, h0 => ⟨ρ, S, rfl, h0⟩
  | v :: r, k, ρ, S, h, h0 => by
    obtain ⟨ρ1, S1, e, p⟩ := h 0 v ρ S rfl h0
    obtain ⟨ρ2, S2, e2, p2⟩ := forGo_inv (f := f) (P := P) (l := r) (k := k + 1) (fun i v ρ S hi hp => by
      obtain ⟨a, b, c, q⟩ := h (i + 1) v ρ S (by simpa using hi) (by rw [show k + (i + 1) = k + 1 + i by omega]; exact hp)
      exact ⟨a, b, c, by rw [show k + 1 + i + 1 = k + (i + 1) + 1 by omega]; exact q⟩) p
    refine ⟨ρ2, S2, ?_, by rw [List.length_cons, show k + (r.length + 1) = k + 1 + r.length by omega]; exact p2⟩
    unfold forGo
    rcases e with e | e <;> rw [e] <;> exact e2
theorem compGo_one {f : Val → Store → Res (List Val)} {P : Nat → Store → Prop} {R : Nat → Val → Prop} : ∀ {l : List Val} {k : Nat} {S : Store}, (∀ i v S, l[i]? = some v → P (k + i) S → ∃ y S', f v S = .ok [y] S' ∧ P (k + i + 1) S' ∧ R (k + i) y) → P k S →
    ∃ zs S', compGo f l S = .ok zs S' ∧ P (k + l.length) S' ∧ zs.length = l.length ∧ ∀ i z, zs[i]? = some z → R (k + i) z
  | [], k, S, _, h0 => ⟨[], S, rfl, h0, rfl, fun i z h => by simp at h⟩
  | v :: r, k, S, h, h0 => by
    obtain ⟨y, S1, e, p, q⟩ := h 0 v S rfl h0
    obtain ⟨zs, S2, e2, p2, l2, q2⟩ := compGo_one (f := f) (P := P) (R := R) (l := r) (k := k + 1) (fun i v S hi hp => by
      obtain ⟨a, b, c, q, q'⟩ := h (i + 1) v S (by simpa using hi) (by rw [show k + (i + 1) = k + 1 + i by omega]; exact hp)
      exact ⟨a, b, c, by rw [show k + 1 + i + 1 = k + (i + 1) + 1 by omega]; exact q, by rw [show k + 1 + i = k + (i + 1) by omega]; exact q'⟩) p
    refine ⟨y :: zs, S2, ?_, by rw [List.length_cons, show k + (r.length + 1) = k + 1 + r.length by omega]; exact p2, by rw [List.length_cons, List.length_cons, l2], fun i z hz => ?_⟩
    · unfold compGo
      rw [e]
      simp only
      rw [e2]
      rfl
    · cases i with
      | zero =>
        simp at hz
        subst hz
        exact q
      | succ i => rw [show k + (i + 1) = k + 1 + i by omega]; exact q2 i z (by simpa using hz)
@[simp] theorem bi_lenL (S : Store) (l : List Val) : biV S .len [.lst l] = some (.int l.length) := rfl
@[simp] theorem bi_lenT (S : Store) (l : List Val) : biV S .len [.tup l] = some (.int l.length) := rfl
@[simp] theorem bi_lenS (S : Store) (x : Str) : biV S .len [.str x] = some (.int x.length) := rfl
@[simp] theorem bi_listL (S : Store) (l : List Val) : biV S .list [.lst l] = some (.lst l) := rfl
@[simp] theorem bi_listT (S : Store) (l : List Val) : biV S .list [.tup l] = some (.lst l) := rfl
@[simp] theorem bi_tupL (S : Store) (l : List Val) : biV S .tuple [.lst l] = some (.tup l) := rfl
@[simp] theorem bi_abs (S : Store) (i : Int) : biV S .abs [.int i] = some (.int (if i < 0 then -i else i)) := rfl
@[simp] theorem bi_intB (S : Store) (b : Bool) : biV S .int [.bl b] = some (.int (if b then 1 else 0)) := rfl
@[simp] theorem bi_max (S : Store) (a b : Int) : biV S .max2 [.int a, .int b] = some (.int (if b > a then b else a)) := rfl
@[simp] theorem sl_l (S : Store) (l : List Val) (a b : Option Int) : slV S (.lst l) a b = some (.lst (cutL l a b)) := rfl
@[simp] theorem sl_t (S : Store) (l : List Val) (a b : Option Int) : slV S (.tup l) a b = some (.tup (cutL l a b)) := rfl
@[simp] theorem ix_l (S : Store) (l : List Val) (i : Int) : ixV S (.lst l) (.int i) = atI l i := rfl
@[simp] theorem ix_t (S : Store) (l : List Val) (i : Int) : ixV S (.tup l) (.int i) = atI l i := rfl
theorem atI_nat {α : Type} (l : List α) (k : Nat) : atI l (k : Int) = l[k]? := by
  unfold atI ixN
  by_cases h : k < l.length
  · rw [if_pos (by omega), if_pos (by omega)]
    simp
  · rw [if_pos (by omega), if_neg (by omega), List.getElem?_eq_none (by omega)]
    rfl
theorem dip_ok {d k : Nat} {cs : List Int} {S : Store} (h : Φ "_law_dip" = some Co.fn__law_dip) (hk : k < 1000000) :
    ∃ S', callF sg Φ (d + 1) "_law_dip" [.lst (cs.map .int), .int k] S = .ok (.loc S.length) S' ∧ Box S' S.length 0 := by
  rw [call_eq h rfl]
  have hp : binV .pow (.int 10) (.int 18) = some (.int (10 ^ 18)) := bv_pow (n := 18) (by omega) (by omega)
  have hm : ∀ (x : Int) (p : Prop) [Decidable p], binV .mul (.int x) (.int (if p then 1 else 0)) = some (.int (x * (if p then 1 else 0))) := fun x p _ => bv_mulI (by by_cases h : p <;> simp only [h, if_true, if_false] <;> exact fit_r (by decide) (by decide))
  have hz : binV .mul (.int 0) (.int 0) = some (.int 0) := bv_mulI (fit_r (by decide) (by decide))
  have hm2 : binV .mul (.int 39373) (.int (k : Int)) = some (.int (39373 * (k : Int))) := bv_mulI (fit_l (by omega) (by omega))
  have key : ∃ a b : Int, 0 ≤ a ∧ 0 ≤ b ∧ b < 4611686018427387904 ∧ finO (evSs sg (callF sg Φ d) Co.fn__law_dip.body ([Val.lst (cs.map .int), Val.int k].map some ++ List.replicate (Co.fn__law_dip.nl - Co.fn__law_dip.np) none) S) =
      .ok (.loc S.length) (S ++ [.lst [.int a, .int b, .int 0]]) := by
    by_cases hlt : k < cs.length
    · have e : atI (cs.map Val.int) (k : Int) = some (.int cs[k]) := by
        rw [atI_nat, List.getElem?_map, List.getElem?_eq_getElem hlt]
        rfl
      have b1 := Int.emod_nonneg cs[k] (show (2305843009213693951 : Int) ≠ 0 by omega)
      have b2 := Int.emod_lt_of_pos cs[k] (show (0 : Int) < 2305843009213693951 by omega)
      refine ⟨(if cs[k] < 0 then -cs[k] else cs[k]) * (if (1000000000000000000 : Int) ≤ (if cs[k] < 0 then -cs[k] else cs[k]) then 1 else 0), cs[k] % 2305843009213693951 + 39373 * (k : Int) + 17, ?_, by omega, by omega, ?_⟩
      · have : (0 : Int) ≤ (if cs[k] < 0 then -cs[k] else cs[k]) := by split <;> omega
        by_cases q : (1000000000000000000 : Int) ≤ (if cs[k] < 0 then -cs[k] else cs[k])
        · rw [if_pos q]
          omega
        · rw [if_neg q]
          omega
      · simp [Co.fn__law_dip, hlt, e, hp, hm, hm2, bv_mod]
    · refine ⟨0, 39373 * (k : Int) + 17, by omega, by omega, by omega, ?_⟩
      simp [Co.fn__law_dip, hlt, hp, hz, hm2, bv_mod]
  obtain ⟨a, b, h1, h2, h3, key⟩ := key
  exact ⟨_, key, ⟨a, b, 0, by simp, h1, h2, h3, by omega, by omega⟩⟩
theorem bls_true : ∀ {zs : List Val}, (∀ (i : Nat) (z : Val), zs[i]? = some z → z = Val.bl true) → ∃ bs, blsV zs = some bs ∧ bs.all id = true
  | [], _ => ⟨[], rfl, rfl⟩
  | v :: r, h => by
    have e : v = .bl true := h 0 v rfl
    subst e
    obtain ⟨bs, h1, h2⟩ := bls_true (zs := r) fun i z hz => h (i + 1) z (by simpa using hz)
    refine ⟨true :: bs, ?_, ?_⟩
    · show (blsV r).map (true :: ·) = _
      rw [h1]
      rfl
    · rw [List.all_cons, h2]
      rfl
theorem all_true {S : Store} {zs : List Val} (h : ∀ (i : Nat) (z : Val), zs[i]? = some z → z = Val.bl true) : biV S .all [.lst zs] = some (.bl true) := by
  obtain ⟨bs, h1, h2⟩ := bls_true h
  show (blsV zs).map (fun bs => Val.bl (bs.all id)) = _
  rw [h1, Option.map_some, h2]
theorem zip_self_get : ∀ {l : List Val} {i : Nat} {p : Val}, (zipL l l)[i]? = some p → ∃ x, l[i]? = some x ∧ p = .tup [x, x]
  | [], i, p, h => by simp [zipL] at h
  | x :: l, 0, p, h => by
    simp [zipL] at h
    exact ⟨x, rfl, h.symm⟩
  | x :: l, i + 1, p, h => by
    simp [zipL] at h
    obtain ⟨y, h1, h2⟩ := zip_self_get h
    exact ⟨y, by simpa using h1, h2⟩
/-- data of n levels at most, no list too long -/
def goodV : Nat → Val → Bool
  | _, .non => true
  | _, .bl _ => true
  | _, .int _ => true
  | _, .str _ => true
  | n + 1, .tup l => decide (l.length ≤ lim) && l.all (goodV n)
  | n + 1, .lst l => decide (l.length ≤ lim) && l.all (goodV n)
  | _, _ => false
@[simp] theorem isn_q (v : Val) : cmpV .isn v .non = some (isN v) := by cases v <;> rfl
@[simp] theorem nisn_q (v : Val) : cmpV .nisn v .non = some (!isN v) := by cases v <;> rfl
theorem eqI (a b : Int) : cmpV .eq (.int a) (.int b) = some (a == b) := rfl
theorem eqS (a b : Str) : cmpV .eq (.str a) (.str b) = some (a == b) := rfl
theorem eqB (a b : Bool) : cmpV .eq (.bl a) (.bl b) = some (a == b) := rfl
theorem neB (a b : Bool) : cmpV .ne (.bl a) (.bl b) = some (!(a == b)) := rfl
theorem zip_len : ∀ l : List Val, (zipL l l).length = l.length
  | [] => rfl
  | x :: l => by
    show (zipL l l).length + 1 = _
    rw [zip_len l]
    rfl
theorem same_ok (h : Φ "_law_same" = some Co.fn__law_same) : ∀ (n : Nat) {v : Val} {d : Nat} {S : Store}, goodV n v = true → n < d → callF sg Φ d "_law_same" [v, v] S = .ok (.bl true) S := by
  intro n
  induction n with
  | zero =>
    intro v d S hv hd
    obtain ⟨d, rfl⟩ : ∃ k, d = k + 1 := ⟨d - 1, by omega⟩
    rw [call_eq h rfl]
    cases v with
    | non => simp [Co.fn__law_same, isasV, isaV, isN]
    | bl b => simp [Co.fn__law_same, isasV, isaV, isN, eqB]
    | int i => simp [Co.fn__law_same, isasV, isaV, isN, eqI]
    | str x => simp [Co.fn__law_same, isasV, isaV, isN, eqS, eqB]
    | _ => cases hv
  | succ n ih =>
    intro v d S hv hd
    obtain ⟨d, rfl⟩ : ∃ k, d = k + 1 := ⟨d - 1, by omega⟩
    rw [call_eq h rfl]
    have sub : ∀ {l : List Val}, (decide (l.length ≤ lim) && l.all (goodV n)) = true → ∃ zs S', compGo (compF sg (callF sg Φ d) (.tup [.v 2, .v 3]) [] (.call "_law_same" [.lv 2, .lv 3]) [some v, some v, none, none]) (zipL l l) S = .ok zs S' ∧ S' = S ∧ zs.length ≤ lim ∧ biV S .all [.lst zs] = some (.bl true) := by
      intro l hl
      rw [Bool.and_eq_true] at hl
      have hl1 := of_decide_eq_true hl.1
      have z := compGo_one (f := compF sg (callF sg Φ d) (.tup [.v 2, .v 3]) [] (.call "_law_same" [.lv 2, .lv 3]) [some v, some v, none, none]) (P := fun _ S' => S' = S) (R := fun _ z => z = Val.bl true) (l := zipL l l) (k := 0) (S := S) (fun i p S' hi hS => by
        subst hS
        obtain ⟨x, h1, rfl⟩ := zip_self_get hi
        refine ⟨.bl true, S', ?_, rfl, rfl⟩
        have c := ih (S := S') (d := d) (List.all_eq_true.mp hl.2 x (List.mem_of_getElem? h1)) (by omega)
        simp [compF, wipeE, Pat.vars, Pat.varsL, c]) rfl
      obtain ⟨zs, S', e1, e2, e3, e4⟩ := z
      exact ⟨zs, S', e1, e2, by rw [e3, zip_len]; exact hl1, all_true fun i z hz => e4 i z hz⟩
    cases v with
    | non => simp [Co.fn__law_same, isasV, isaV, isN]
    | bl b => simp [Co.fn__law_same, isasV, isaV, isN, eqB]
    | int i => simp [Co.fn__law_same, isasV, isaV, isN, eqI]
    | str x => simp [Co.fn__law_same, isasV, isaV, isN, eqS, eqB]
    | tup l =>
      obtain ⟨zs, S', e1, e2, e3, e4⟩ := sub hv
      subst e2
      simp [Co.fn__law_same, isasV, isaV, isN, neB, eqI, itV, e1, e3, e4]
    | lst l =>
      obtain ⟨zs, S', e1, e2, e3, e4⟩ := sub hv
      subst e2
      simp [Co.fn__law_same, isasV, isaV, isN, neB, eqI, itV, e1, e3, e4]
    | _ => cases hv
theorem enum_get : ∀ {l : List Val} {k : Int} {i : Nat} {p : Val}, (enumL k l)[i]? = some p → ∃ x, l[i]? = some x ∧ p = .tup [.int (k + i), x] := fun {l k i p} h => enumL_get h
theorem folded_ok {d sz : Nat} {ns : List Int} {S : Store} (h : Φ "_law_folded" = some Co.fn__law_folded) (h0 : S[0]? = some (.ro (ns.map .int))) (hs : 0 < sz) (hz : sz < 63) :
    ∃ cs : List Int, cs.length ≤ sz ∧ callF sg Φ (d + 1) "_law_folded" [.loc 0, .int sz] S = .ok (.lst (cs.map .int)) S := by
  rw [call_eq h rfl]
  have e1 : slV S (.loc 0) none (some (sz : Int)) = some (.lst ((ns.take sz).map .int)) := by
    unfold slV
    simp only [h0]
    congr 2
    unfold cutL sIx
    simp only [List.length_map]
    rw [if_neg (by omega), List.drop_zero, Nat.sub_zero, List.map_take]
    by_cases hl : sz ≤ ns.length
    · rw [show min (sz : Int).toNat ns.length = sz by simp; omega]
    · rw [show min (sz : Int).toNat ns.length = ns.length by simp; omega, List.take_of_length_le (by simp), List.take_of_length_le (by simp; omega)]
  have e2 : ∃ ms : List Int, slV S (.loc 0) (some (sz : Int)) (some 63) = some (.lst (ms.map .int)) ∧ (ms ≠ [] → sz < ns.length) ∧ ms.length ≤ 63 := by
    refine ⟨cutL ns (some (sz : Int)) (some 63), ?_, fun hm => ?_, ?_⟩
    · unfold slV
      simp only [h0]
      congr 2
      unfold cutL
      simp [List.map_drop, List.map_take]
    · by_cases hl : sz < ns.length
      · exact hl
      · exfalso
        apply hm
        have e : sIx ns.length 0 (some (sz : Int)) = ns.length := by
          unfold sIx
          simp only
          rw [if_neg (by omega)]
          simp
          omega
        unfold cutL
        rw [e, List.drop_length]
        exact List.take_nil
    · unfold cutL sIx
      rw [List.length_take]
      simp
      omega
  obtain ⟨ms, e2, e3, e4⟩ := e2
  have loop := forGo_inv (f := fun v ρ S => (match bindP (.tup [.v 3, .v 4]) v ρ with
      | some ρ' => evSs sg (callF sg Φ d) [.setL 2 (.bin .mod (.lv 3) (.lv 1)) (.bin .add (.ix (.lv 2) (.bin .mod (.lv 3) (.lv 1))) (.bin .mul (.lv 4) (.bin .add (.lv 3) (.cst (.int 2)))))] ρ' S
      | none => .bad)) (P := fun _ ρ S' => S' = S ∧ ∃ (cs : List Int) (a b : Option Val), cs.length = (ns.take sz).length ∧ ρ = [some (.loc 0), some (.int sz), some (.lst (cs.map .int)), a, b]) (l := enumL 0 (ms.map .int)) (k := 0)
      (ρ := [some (.loc 0), some (.int sz), some (.lst ((ns.take sz).map .int)), none, none]) (S := S) (fun i v ρ S' hi hP => by
    obtain ⟨rfl, cs, a, b, hl, rfl⟩ := hP
    obtain ⟨x, g1, rfl⟩ := enum_get hi
    rw [List.getElem?_map] at g1
    obtain ⟨y, g2, rfl⟩ := Option.map_eq_some_iff.mp g1
    have hne : ms ≠ [] := by
      intro z
      rw [z] at g2
      simp at g2
    have hsz := e3 hne
    have hi63 : i < 63 := by
      have := (List.getElem?_eq_some_iff.mp g2).1
      omega
    have hcs : cs.length = sz := by
      rw [hl, List.length_take]
      omega
    have hm : (i % sz) < cs.length := by
      rw [hcs]
      exact Nat.mod_lt _ hs
    have q1 : ((0 : Int) + i) % (sz : Int) = (i : Int) % (sz : Int) := by rw [Int.zero_add]
    have q0 : (i : Int) % (sz : Int) = ((i % sz : Nat) : Int) := (Int.natCast_emod i sz).symm
    have q2 : atI (cs.map Val.int) ((i : Int) % (sz : Int)) = some (.int cs[i % sz]) := by
      rw [q0, atI_nat, List.getElem?_map, List.getElem?_eq_getElem hm]
      rfl
    have q3 : binV .mul (.int y) (.int (0 + (i : Int) + 2)) = some (.int (y * (0 + (i : Int) + 2))) := bv_mulI (fit_r (by omega) (by omega))
    have q4 : ixN cs.length ((i : Int) % (sz : Int)) = some (i % sz) := by
      rw [q0]
      unfold ixN
      rw [if_pos (by omega), if_pos (by omega)]
      exact congrArg some (Int.toNat_natCast _)
    refine ⟨_, S', .inl ?_, rfl, cs.set (i % sz) (cs[i % sz] + y * (0 + (i : Int) + 2)), some (.int (0 + (i : Int))), some (.int y), by rw [List.length_set]; exact hl, rfl⟩
    simp only [bindP_t, List.length_cons, List.length_nil, if_true, bindPs_c, bindP_v, bindPs_n, setE_q, set_0, set_s, Option.bind_some]
    simp [lstE, bv_mod (show (0 : Int) < sz by omega), -Int.zero_add, q1, q2, q3, q4, List.map_set]) ⟨rfl, _, none, none, rfl, rfl⟩
  obtain ⟨ρ', S', l1, rfl, cs, a, b, l2, l3⟩ := loop
  refine ⟨cs, by rw [l2, List.length_take]; omega, ?_⟩
  subst l3
  simp [Co.fn__law_folded, e1, e2, itV] at l1 ⊢
  rw [l1]
  simp
end
end Pi

end
section
set_option linter.all false
set_option maxRecDepth 100000
/-! PiS: drawn names. -/
namespace Pi
open PySem
def Co.nmI : List IS := [.ite (.cmp .in_ (.lv 5) (.bin .add (.lv 3) (.lst [(.cst (.str "and")), (.cst (.str "or")), (.cst (.str "not")), (.cst (.str "until")), (.cst (.str "always")), (.cst (.str "sometime"))]))) [.asg (.v 5) (.bin .add (.bin .add (.sl (.lv 5) [] [(.cst (.int 6))]) (.ix (.lv 2) (.bin .fdiv (.lv 6) (.cst (.int 26))))) (.ix (.lv 2) (.bin .mod (.lv 6) (.cst (.int 26)))))] []]
def Co.nmB : List IS := [.asg (.v 5) (.bi .join [(.cst (.str "")), (.comp 1 [(.ix (.lst [(.cst (.int 1)), (.cst (.int 2)), (.cst (.int 4)), (.cst (.int 8))]) (.call "_law_take" [(.lv 0), (.cst (.int 4))]))] (.v 6) [] (.ix (.lv 2) (.call "_law_take" [(.lv 0), (.cst (.int 26))])))]), .forr 1 [(.bin .add (.bi .len [(.lv 3)]) (.cst (.int 2)))] (.v 6) Co.nmI, .app 3 (.lv 5)]
def Co.fn__law_named : Fn := ⟨2, 7, [.par [(2, false), (3, true)] [(.cst (.str "abcdefghijklmnopqrstuvwxyz")), (.lst [])],
  .forr 1 [(.lv 1)] (.v 4) Co.nmB,
  .share 3,
  .ret (.lv 3)]⟩
def wordsS : List Str := ["and", "or", "not", "until", "always", "sometime"]
abbrev sL (l : List Nat) : Str := ⟨l.toArray⟩
abbrev isLt (c : Nat) : Prop := 97 ≤ c ∧ c ≤ 122
structure Nice (x : Str) : Prop where
  a : 1 ≤ x.length
  b : x.length ≤ 8
  l : ∀ c ∈ x.cps.toList, isLt c
  w : x ∉ wordsS
theorem exists_map {α : Type} {f : α → Val} {p : α → Prop} : ∀ {zs : List Val}, (∀ (i : Nat) (z : Val), zs[i]? = some z → ∃ a, z = f a ∧ p a) → ∃ as : List α, zs = as.map f ∧ ∀ a ∈ as, p a
  | [], _ => ⟨[], rfl, fun _ h => by cases h⟩
  | z :: r, h => by
    obtain ⟨a, h1, h2⟩ := h 0 z rfl
    obtain ⟨as, h3, h4⟩ := exists_map (zs := r) fun i z hz => h (i + 1) z (by simpa using hz)
    refine ⟨a :: as, by rw [h1, h3]; rfl, fun b hb => ?_⟩
    rcases List.mem_cons.mp hb with rfl | hb
    · exact h2
    · exact h4 b hb
theorem strs_map : ∀ l : List Str, strsV (l.map Val.str) = some l
  | [] => rfl
  | x :: r => by
    show (strsV (r.map Val.str)).map (x :: ·) = _
    rw [strs_map r]
    rfl
theorem join_sing : ∀ cs : List Nat, Str.join "" (cs.map fun c => (⟨#[c]⟩ : Str)) = sL cs
  | [] => rfl
  | [c] => rfl
  | c :: d :: r => by
    show (⟨#[c]⟩ : Str) ++ ("" : Str) ++ Str.join "" ((d :: r).map fun c => (⟨#[c]⟩ : Str)) = _
    rw [join_sing (d :: r)]
    have e : ("" : Str) = ⟨#[]⟩ := by decide +kernel
    rw [e]
    show (⟨(#[c] ++ #[]) ++ (d :: r).toArray⟩ : Str) = ⟨(c :: d :: r).toArray⟩
    simp
theorem dep_strs : ∀ l : List Str, depVs (l.map Val.str) = some 0
  | [] => rfl
  | x :: r => by
    show (match depV (Val.str x), depVs (r.map Val.str) with
      | some a, some b => some (max a b)
      | _, _ => none) = _
    rw [dep_strs r]
    rfl
theorem in_strs (x : Str) (l : List Str) : cmpV .in_ (.str x) (.lst (l.map .str)) = some (decide (x ∈ l)) := by
  have h : datV (.lst (l.map .str)) = true := by
    unfold datV depV
    rw [dep_strs]
    rfl
  show (if datV (.str x) && datV (.lst (l.map .str)) then some ((l.map Val.str).any fun y => eqV y (.str x)) else none) = _
  rw [h, show (datV (.str x) && true) = true from rfl, if_pos rfl]
  congr 1
  rw [List.any_map]
  clear h
  induction l with
  | nil => rfl
  | cons y r ih =>
    rw [List.any_cons, ih]
    show ((y == x) || _) = _
    by_cases hx : y = x
    · subst hx
      simp
    · have : ¬ x = y := fun z => hx z.symm
      simp [hx, this]
theorem ltr_list : ("abcdefghijklmnopqrstuvwxyz" : Str).cps.toList = List.range' 97 26 := by decide +kernel
theorem ix_ltr (S : Store) (i : Int) (h0 : 0 ≤ i) (h1 : i < 26) : ixV S (.str "abcdefghijklmnopqrstuvwxyz") (.int i) = some (.str ⟨#[97 + i.toNat]⟩) := by
  obtain ⟨n, rfl⟩ := Int.eq_ofNat_of_zero_le h0
  show (atI ("abcdefghijklmnopqrstuvwxyz" : Str).cps.toList (n : Int)).map (fun c => Val.str ⟨#[c]⟩) = _
  have hn : n < 26 := by omega
  rw [ltr_list, atI_nat, List.getElem?_range' hn]
  simp
def codeOf (l : List Nat) : Nat := match l.reverse with
  | b :: a :: _ => (a - 97) * 26 + (b - 97)
  | _ => 1000
def nextN (l : List Nat) (t : Nat) : List Nat := l.take 6 ++ [97 + t / 26, 97 + t % 26]
theorem code_next (l : List Nat) (t : Nat) : codeOf (nextN l t) = t := by
  unfold codeOf nextN
  rw [List.reverse_append]
  show (97 + t / 26 - 97) * 26 + (97 + t % 26 - 97) = t
  have := Nat.div_add_mod t 26
  omega
theorem words_code : ∀ w ∈ wordsS, 25 < codeOf w.cps.toList := by decide +kernel
theorem pigeon {α : Type} [DecidableEq α] : ∀ (l m : List α), l.Nodup → (∀ x ∈ l, x ∈ m) → l.length ≤ m.length
  | [], _, _, _ => Nat.zero_le _
  | x :: l, m, hn, hs => by
    rw [List.nodup_cons] at hn
    have hx := hs x (List.mem_cons_self ..)
    have := pigeon l (m.erase x) hn.2 fun y hy => (List.mem_erase_of_ne (fun (e : y = x) => hn.1 (by rw [← e]; exact hy))).mpr (hs y (List.mem_cons_of_mem _ hy))
    rw [List.length_erase_of_mem hx] at this
    have := List.length_pos_of_mem hx
    rw [List.length_cons]
    omega
/-- what stands ahead of turn t -/
def Seek (found : List Str) (t : Nat) (l : List Nat) : Prop :=
  sL l ∉ found ++ wordsS ∨ t = 0 ∨ (codeOf l + 1 = t ∧ ∃ cs : List Str, cs.length + 1 = t ∧ cs.Nodup ∧ ∀ c ∈ cs, c ∈ found ∧ codeOf c.cps.toList + 1 < t)
theorem Seek.keep {found : List Str} {t : Nat} {l : List Nat} (h : sL l ∉ found ++ wordsS) : Seek found (t + 1) l := .inl h
theorem Seek.step {found : List Str} {t : Nat} {l : List Nat} (h : Seek found t l) (ht : t ≤ 26) (hb : sL l ∈ found ++ wordsS) : Seek found (t + 1) (nextN l t) := by
  rcases h with h | h | ⟨h1, cs, h2, h3, h4⟩
  · exact absurd hb h
  · subst h
    exact .inr (.inr ⟨by rw [code_next], [], rfl, List.nodup_nil, fun _ h => by cases h⟩)
  · refine .inr (.inr ⟨by rw [code_next], sL l :: cs, by rw [List.length_cons]; omega, List.nodup_cons.mpr ⟨fun hm => ?_, h3⟩, fun c hc => ?_⟩)
    · have := (h4 _ hm).2
      simp only [List.toList_toArray] at this
      omega
    · rcases List.mem_cons.mp hc with rfl | hc
      · refine ⟨?_, by simp only [List.toList_toArray]; omega⟩
        rcases List.mem_append.mp hb with hb | hb
        · exact hb
        · have := words_code _ hb
          simp only [List.toList_toArray] at this
          omega
      · exact ⟨(h4 c hc).1, by have := (h4 c hc).2; omega⟩
theorem Seek.done {found : List Str} {l : List Nat} (h : Seek found (found.length + 2) l) (hn : found.length ≤ 24) : sL l ∉ found ++ wordsS := by
  rcases h with h | h | ⟨h1, cs, h2, h3, h4⟩
  · exact h
  · omega
  · have := pigeon cs found h3 fun c hc => (h4 c hc).1
    omega
theorem cut6 (l : List Nat) : cutL l none (some 6) = l.take 6 := by
  unfold cutL sIx
  simp only [Nat.sub_zero, List.drop_zero]
  rw [if_neg (by omega)]
  by_cases h : 6 ≤ l.length
  · rw [show min (6 : Int).toNat l.length = 6 by simp; omega]
  · rw [show min (6 : Int).toNat l.length = l.length by simp; omega, List.take_of_length_le (by omega), List.take_of_length_le (by omega)]
@[simp] theorem sl_s (S : Store) (x : Str) (a b : Option Int) : slV S (.str x) a b = some (.str ⟨(cutL x.cps.toList a b).toArray⟩) := rfl
theorem app_sL (a b : List Nat) : sL a ++ sL b = sL (a ++ b) := by
  show (⟨a.toArray ++ b.toArray⟩ : Str) = ⟨(a ++ b).toArray⟩
  simp
theorem len_sL (a : List Nat) : (sL a).length = a.length := by
  show a.toArray.size = _
  simp
theorem range_len : ∀ (n : Nat) (a : Int), (rangeL a n).length = n
  | 0, _ => rfl
  | n + 1, a => by
    show (rangeL (a + 1) n).length + 1 = _
    rw [range_len n]
theorem range_get : ∀ {n : Nat} {a : Int} {i : Nat} {v : Val}, (rangeL a n)[i]? = some v → i < n ∧ v = .int (a + i)
  | 0, a, i, v, h => by simp [rangeL] at h
  | n + 1, a, 0, v, h => by
    simp [rangeL] at h
    exact ⟨by omega, by rw [← h]; simp⟩
  | n + 1, a, i + 1, v, h => by
    simp [rangeL] at h
    obtain ⟨h1, h2⟩ := range_get h
    exact ⟨by omega, by rw [h2]; congr 1; omega⟩
theorem it1 (S : Store) (n : Nat) (h : n ≤ 16777216) : itV S 1 [.int n] = some (rangeL 0 n) := by
  show (if -(2 ^ 62) ≤ (n : Int) ∧ (n : Int) ≤ lim then some (rangeL 0 (n : Int).toNat) else none) = _
  rw [if_pos ⟨by omega, by show (n : Int) ≤ (16777216 : Nat); omega⟩]
  simp
noncomputable def forF (sg : Sig) (cf : String → List Val → Store → Res Val) (p : Pat) (b : List IS) (v : Val) (ρ : Env) (S : Store) : Out := match bindP p v ρ with
  | some ρ' => evSs sg cf b ρ' S
  | none => .bad
@[simp high] theorem evS_for {sg : Sig} {cf : String → List Val → Store → Res Val} {ρ : Env} {S : Store} {k : Nat} {its : List IE} {p : Pat} {b : List IS} : evS sg cf (.forr k its p b) ρ S = ((evEs sg cf ρ its S).bind fun vs S1 => .of (itV S1 k vs) S1).on ρ fun xs S1 => forGo (forF sg cf p b) xs ρ S1 := by rw [evS_q14]; rfl
theorem forF_eq {sg : Sig} {cf : String → List Val → Store → Res Val} {p : Pat} {b : List IS} {v : Val} {ρ ρ' : Env} {S : Store} (h : bindP p v ρ = some ρ') : forF sg cf p b v ρ S = evSs sg cf b ρ' S := by unfold forF; rw [h]
section
variable {sg : Sig} {Φ : Tab}
theorem limk : (64 : Nat) ≤ lim := by decide
theorem draw_ok {d n m : Nat} {S : Store} (h : Φ "_law_take" = some Co.fn__law_take) (b : Box S n m) (hm : m < 900000) (k : Int) (hk : 0 < k) (hk2 : k < 9223372036854775808) :
    ∃ r S', callF sg Φ (d + 1) "_law_take" [.loc n, .int k] S = .ok (.int r) S' ∧ 0 ≤ r ∧ r < k ∧ Box S' n (m + 1) ∧ S'.length = S.length ∧ ∀ j, j ≠ n → S'[j]? = S[j]? := take_ok h b hk hk2 (by omega)
/-- as before but for the box -/
structure Same (n : Nat) (S S' : Store) : Prop where
  len : S'.length = S.length
  get : ∀ j, j ≠ n → S'[j]? = S[j]?
theorem Same.rfl' {n : Nat} {S : Store} : Same n S S := ⟨rfl, fun _ _ => rfl⟩
theorem Same.trans {n : Nat} {S S1 S2 : Store} (a : Same n S S1) (b : Same n S1 S2) : Same n S S2 := ⟨b.len.trans a.len, fun j h => (b.get j h).trans (a.get j h)⟩
theorem draw {d n m : Nat} {S : Store} (h : Φ "_law_take" = some Co.fn__law_take) (b : Box S n m) (hm : m < 900000) (k : Nat) (hk : 0 < k) (hk2 : k < 9223372036854775808) :
    ∃ (r : Nat) (S' : Store), callF sg Φ (d + 1) "_law_take" [.loc n, .int k] S = .ok (.int r) S' ∧ r < k ∧ Box S' n (m + 1) ∧ Same n S S' := by
  obtain ⟨r, S', h1, h2, h3, h4, h5, h6⟩ := draw_ok (sg := sg) (d := d) h b hm (k : Int) (by omega) (by omega)
  obtain ⟨q, rfl⟩ := Int.eq_ofNat_of_zero_le h2
  exact ⟨q, S', h1, by omega, h4, h5, h6⟩
theorem inner_turn {cf : String → List Val → Store → Res Val} {v0 v1 v4 v6 : Option Val} {xs : List Str} {l : List Nat} {t : Nat} {S : Store} (hx : xs.length ≤ 20) (ht : t ≤ 24)
    (l1 : 1 ≤ l.length) (l2 : l.length ≤ 8) (l3 : ∀ c ∈ l, isLt c) (sk : Seek xs t l) :
    ∃ l', evSs sg cf Co.nmI [v0, v1, some (.str "abcdefghijklmnopqrstuvwxyz"), some (.lst (xs.map .str)), v4, some (.str (sL l)), some (.int t)] S = .nx [v0, v1, some (.str "abcdefghijklmnopqrstuvwxyz"), some (.lst (xs.map .str)), v4, some (.str (sL l')), some (.int t)] S ∧
      1 ≤ l'.length ∧ l'.length ≤ 8 ∧ (∀ c ∈ l', isLt c) ∧ Seek xs (t + 1) l' := by
  have ha : binV .add (.lst (xs.map .str)) (.lst [.str "and", .str "or", .str "not", .str "until", .str "always", .str "sometime"]) = some (.lst ((xs ++ wordsS).map .str)) := by
    rw [bv_addL (Nat.le_trans (show _ ≤ 64 by simp; omega) limk), List.map_append]
    rfl
  have hin := in_strs (sL l) (xs ++ wordsS)
  by_cases hb : sL l ∈ xs ++ wordsS
  · have hd := ix_ltr S ((t : Int) / 26) (by omega) (by omega)
    have hr := ix_ltr S ((t : Int) % 26) (by omega) (by omega)
    have g1 : binV .add (.str (sL (l.take 6))) (.str (sL [97 + ((t : Int) / 26).toNat])) = some (.str (sL (l.take 6 ++ [97 + ((t : Int) / 26).toNat]))) := by
      rw [bv_addS (Nat.le_trans (show _ ≤ 64 by rw [len_sL, len_sL, List.length_take]; simp; omega) limk), app_sL]
    have g2 : binV .add (.str (sL (l.take 6 ++ [97 + ((t : Int) / 26).toNat]))) (.str (sL [97 + ((t : Int) % 26).toNat])) = some (.str (sL (nextN l t))) := by
      rw [bv_addS (Nat.le_trans (show _ ≤ 64 by rw [len_sL, len_sL, List.length_append, List.length_take]; simp; omega) limk), app_sL]
      have z1 : ((t : Int) / 26).toNat = t / 26 := by omega
      have z2 : ((t : Int) % 26).toNat = t % 26 := by omega
      rw [z1, z2]
      unfold nextN
      simp
    refine ⟨nextN l t, ?_, ?_, ?_, ?_, sk.step (by omega) hb⟩
    · simp only [hb, decide_true] at hin
      simp [Co.nmI, -List.map_append, -List.mem_append, ha, hin, cut6, bv_div, bv_mod, -Int.zero_add, hd, hr, g1, g2]
    · unfold nextN
      simp
    · unfold nextN
      simp
      omega
    · intro q hq
      unfold nextN at hq
      rcases List.mem_append.mp hq with hq | hq
      · exact l3 q (List.mem_of_mem_take hq)
      · simp at hq
        show 97 ≤ q ∧ q ≤ 122
        omega
  · refine ⟨l, ?_, l1, l2, l3, Seek.keep hb⟩
    simp only [hb, decide_false] at hin
    simp [Co.nmI, -List.map_append, -List.mem_append, ha, hin]
theorem inner_loop {cf : String → List Val → Store → Res Val} {v0 v1 v4 v6 : Option Val} {xs : List Str} {l : List Nat} {S : Store} (hx : xs.length ≤ 20)
    (l1 : 1 ≤ l.length) (l2 : l.length ≤ 8) (l3 : ∀ c ∈ l, isLt c) :
    ∃ (l' : List Nat) (e : Option Val), forGo (forF sg cf (.v 6) Co.nmI) (rangeL 0 (xs.length + 2)) [v0, v1, some (.str "abcdefghijklmnopqrstuvwxyz"), some (.lst (xs.map .str)), v4, some (.str (sL l)), v6] S = .nx [v0, v1, some (.str "abcdefghijklmnopqrstuvwxyz"), some (.lst (xs.map .str)), v4, some (.str (sL l')), e] S ∧
      1 ≤ l'.length ∧ l'.length ≤ 8 ∧ (∀ c ∈ l', isLt c) ∧ sL l' ∉ xs ++ wordsS := by
  have inner := forGo_inv (f := forF sg cf (.v 6) Co.nmI) (P := fun t ρ S' => S' = S ∧ ∃ (l : List Nat) (e : Option Val), 1 ≤ l.length ∧ l.length ≤ 8 ∧ (∀ c ∈ l, isLt c) ∧ Seek xs t l ∧ ρ = [v0, v1, some (.str "abcdefghijklmnopqrstuvwxyz"), some (.lst (xs.map .str)), v4, some (.str (sL l)), e])
        (l := rangeL 0 (xs.length + 2)) (k := 0) (ρ := [v0, v1, some (.str "abcdefghijklmnopqrstuvwxyz"), some (.lst (xs.map .str)), v4, some (.str (sL l)), v6]) (S := S) (fun t v ρ S6 ht6 hP => by
          obtain ⟨htl, rfl⟩ := range_get ht6
          obtain ⟨rfl, l, e, l1, l2, l3, sk, rfl⟩ := hP
          simp only [Nat.zero_add] at sk ⊢
          obtain ⟨l', h1, h2, h3, h4, h5⟩ := inner_turn (sg := sg) (cf := cf) (v0 := v0) (v1 := v1) (v4 := v4) (v6 := e) (S := S6) hx (t := t) (by omega) l1 l2 l3 sk
          refine ⟨_, S6, .inl ?_, rfl, l', some (.int t), h2, h3, h4, h5, rfl⟩
          rw [Int.zero_add]
          rw [forF_eq bindP_v]
          simp only [setE_q, set_0, set_s]
          exact h1) ⟨rfl, l, v6, l1, l2, l3, .inr (.inl rfl), rfl⟩
  obtain ⟨ρ', S6, i1, rfl, l', e, l1, l2, l3, sk, rfl⟩ := inner
  rw [Nat.zero_add, range_len] at sk
  exact ⟨l', e, i1, l1, l2, l3, sk.done (by omega)⟩
theorem drawn_word {d n m w : Nat} {S : Store} {v1 v3 v4 v5 v6 : Option Val} (ht : Φ "_law_take" = some Co.fn__law_take) (b : Box S n m) (hm : m + w < 900000) (hw : w ≤ 8) :
    ∃ (cs : List Nat) (S' : Store), compGo (compF sg (callF sg Φ (d + 1)) (.v 6) [] (.ix (.lv 2) (.call "_law_take" [(.lv 0), (.cst (.int 26))])) [some (.loc n), v1, some (.str "abcdefghijklmnopqrstuvwxyz"), v3, v4, v5, v6]) (rangeL 0 w) S = .ok (cs.map fun q => Val.str ⟨#[q]⟩) S' ∧
      cs.length = w ∧ (∀ c ∈ cs, isLt c) ∧ biV S' .join [.str "", .lst (cs.map fun q => Val.str ⟨#[q]⟩)] = some (.str (sL cs)) ∧ Box S' n (m + w) ∧ Same n S S' := by
  have comp := compGo_one (f := compF sg (callF sg Φ (d + 1)) (.v 6) [] (.ix (.lv 2) (.call "_law_take" [(.lv 0), (.cst (.int 26))])) [some (.loc n), v1, some (.str "abcdefghijklmnopqrstuvwxyz"), v3, v4, v5, v6])
        (P := fun j S' => Box S' n (m + j) ∧ Same n S S') (R := fun _ z => ∃ q : Nat, z = Val.str ⟨#[q]⟩ ∧ isLt q) (l := rangeL 0 w) (k := 0) (S := S) (fun j v S3 hj hP => by
          obtain ⟨hjw, rfl⟩ := range_get hj
          obtain ⟨b3, sm3⟩ := hP
          simp only [Nat.zero_add] at b3 ⊢
          obtain ⟨q, S4, t2, q2, b4, sm4⟩ := draw (sg := sg) (d := d) ht b3 (by omega) 26 (by omega) (by omega)
          refine ⟨_, S4, ?_, ⟨b4, sm3.trans sm4⟩, ⟨97 + q, rfl, by omega, by omega⟩⟩
          have e := ix_ltr S4 (q : Int) (by omega) (by omega)
          simp only [Int.toNat_natCast] at e
          simp only [Int.cast_ofNat_Int] at t2
          simp [compF, wipeE, Pat.vars, t2, e]) ⟨b, Same.rfl'⟩
  obtain ⟨zs, S5, c1, ⟨b5, sm5⟩, c3, c4⟩ := comp
  obtain ⟨cs, rfl, hcs⟩ := exists_map c4
  rw [List.length_map, range_len] at c3
  refine ⟨cs, S5, c1, c3, hcs, ?_, Box.mono b5 (by rw [range_len]; omega), sm5⟩
  show (strsV (cs.map fun q => Val.str ⟨#[q]⟩)).bind (fun ys => if (ys.map (·.length)).sum + ys.length * ("" : Str).length ≤ lim then some (Val.str (Str.join "" ys)) else none) = _
  have e1 : (cs.map fun q => Val.str ⟨#[q]⟩) = ((cs.map fun q => (⟨#[q]⟩ : Str)).map Val.str) := by rw [List.map_map]; rfl
  rw [e1, strs_map, Option.bind_some, join_sing]
  have e2 : ((cs.map fun q => (⟨#[q]⟩ : Str)).map (·.length)).sum = cs.length := by
    rw [List.map_map]
    have : ((fun x => x.length) ∘ fun q => (⟨#[q]⟩ : Str)) = fun _ : Nat => 1 := rfl
    rw [this]
    clear c3 c4 hcs c1 e1 this
    induction cs with
    | nil => rfl
    | cons a r ih => rw [List.map_cons, List.sum_cons, ih, List.length_cons]; omega
  have e3 : ("" : Str).length = 0 := by decide +kernel
  rw [e2, e3, if_pos (Nat.le_trans (show _ ≤ 64 by omega) limk)]
theorem wide_pick (r : Nat) (h : r < 4) : ∃ w : Nat, atI [Val.int 1, .int 2, .int 4, .int 8] (r : Int) = some (.int w) ∧ 1 ≤ w ∧ w ≤ 8 := by
  have : r = 0 ∨ r = 1 ∨ r = 2 ∨ r = 3 := by omega
  rcases this with rfl | rfl | rfl | rfl
  · exact ⟨1, rfl, by omega, by omega⟩
  · exact ⟨2, rfl, by omega, by omega⟩
  · exact ⟨4, rfl, by omega, by omega⟩
  · exact ⟨8, rfl, by omega, by omega⟩
theorem named_turn {d n m : Nat} {S : Store} {v1 v4 v5 v6 : Option Val} {xs : List Str} (ht : Φ "_law_take" = some Co.fn__law_take) (b : Box S n m) (hm : m + 9 < 900000) (hx : xs.length ≤ 20) :
    ∃ (l : List Nat) (e : Option Val) (S' : Store), evSs sg (callF sg Φ (d + 1)) Co.nmB [some (.loc n), v1, some (.str "abcdefghijklmnopqrstuvwxyz"), some (.lst (xs.map .str)), v4, v5, v6] S =
      .nx [some (.loc n), v1, some (.str "abcdefghijklmnopqrstuvwxyz"), some (.lst ((xs ++ [sL l]).map .str)), v4, some (.str (sL l)), e] S' ∧ 1 ≤ l.length ∧ l.length ≤ 8 ∧ (∀ c ∈ l, isLt c) ∧ sL l ∉ xs ++ wordsS ∧ Box S' n (m + 9) ∧ Same n S S' := by
  obtain ⟨r, S2, t1, r2, b2, sm2⟩ := draw (sg := sg) (d := d) ht b (by omega) 4 (by omega) (by omega)
  obtain ⟨w, hw1, hw2, hw3⟩ := wide_pick r r2
  obtain ⟨cs, S5, c1, c3, hcs, hj, b5, sm5⟩ := drawn_word (sg := sg) (d := d) (v1 := v1) (v3 := some (.lst (xs.map .str))) (v4 := v4) (v5 := v5) (v6 := v6) ht b2 (w := w) (by omega) hw3
  obtain ⟨l', e, i1, l1, l2, l3, hfin⟩ := inner_loop (sg := sg) (cf := callF sg Φ (d + 1)) (v0 := some (.loc n)) (v1 := v1) (v4 := v4) (v6 := v6) (xs := xs) (l := cs) (S := S5) hx (by omega) (by omega) hcs
  refine ⟨l', e, S5, ?_, l1, l2, l3, hfin, Box.mono b5 (by omega), sm2.trans sm5⟩
  have hl := it1 S5 (xs.length + 2) (by omega)
  have hlt : xs.length < lim := Nat.lt_of_lt_of_le (show _ < 64 by omega) limk
  have hle : cs.length ≤ lim := Nat.le_trans (show _ ≤ 64 by omega) limk
  have hit := it1 S2 w (by omega)
  simp only [Int.cast_ofNat_Int] at t1
  simp only [Int.natCast_add, Int.cast_ofNat_Int] at hl
  simp -implicitDefEqProofs [Co.nmB, t1, hw1, hit, c1, hle, hj, hl, i1, lstE, hlt]
theorem named_ok {d n m k : Nat} {S : Store} (ht : Φ "_law_take" = some Co.fn__law_take) (h : Φ "_law_named" = some Co.fn__law_named) (b : Box S n m) (hk : k ≤ 20) (hm : m + 9 * k < 900000) :
    ∃ (xs : List Str) (S' : Store), callF sg Φ (d + 2) "_law_named" [.loc n, .int k] S = .ok (.lst (xs.map .str)) S' ∧ xs.length = k ∧ xs.Nodup ∧ (∀ x ∈ xs, Nice x) ∧ Box S' n (m + 9 * k) ∧ Same n S S' := by
  rw [call_eq h rfl]
  have outer := forGo_inv (f := forF sg (callF sg Φ (d + 1)) (.v 4) Co.nmB)
    (P := fun i ρ S' => Box S' n (m + 9 * i) ∧ Same n S S' ∧ ∃ (xs : List Str) (a b c : Option Val), xs.length = i ∧ xs.Nodup ∧ (∀ x ∈ xs, Nice x) ∧ ρ = [some (.loc n), some (.int k), some (.str "abcdefghijklmnopqrstuvwxyz"), some (.lst (xs.map .str)), a, b, c])
    (l := rangeL 0 k) (k := 0) (ρ := [some (.loc n), some (.int k), some (.str "abcdefghijklmnopqrstuvwxyz"), some (.lst []), none, none, none]) (S := S) (fun i v ρ S1 hi hP => by
      obtain ⟨hik, rfl⟩ := range_get hi
      obtain ⟨b1, sm, xs, a, bb, c, hx1, hx2, hx3, rfl⟩ := hP
      simp only [Nat.zero_add] at b1 hx1 ⊢
      obtain ⟨l, e, S5, t1, l1, l2, l3, hfin, b5, sm5⟩ := named_turn (sg := sg) (d := d) (v1 := some (.int k)) (v4 := some (.int (0 + i))) (v5 := bb) (v6 := c) (xs := xs) ht b1 (by omega) (by omega)
      refine ⟨_, S5, .inl ?_, Box.mono b5 (by omega), sm.trans sm5, xs ++ [sL l], some (.int (0 + i)), some (.str (sL l)), e, by rw [List.length_append, hx1]; rfl, ?_, ?_, rfl⟩
      · rw [forF_eq bindP_v]
        simp only [setE_q, set_0, set_s]
        exact t1
      · rw [List.nodup_append]
        refine ⟨hx2, by simp, fun a ha b hb e => ?_⟩
        simp at hb
        subst hb
        exact hfin (List.mem_append_left _ (e ▸ ha))
      · intro x hx
        rcases List.mem_append.mp hx with hx | hx
        · exact hx3 x hx
        · simp at hx
          subst hx
          exact ⟨by rw [len_sL]; exact l1, by rw [len_sL]; exact l2, fun q hq => l3 q (by simpa using hq), fun z => hfin (List.mem_append_right _ z)⟩) ⟨b, Same.rfl', [], none, none, none, rfl, List.nodup_nil, (fun _ h => by cases h), rfl⟩
  obtain ⟨ρ', S', o1, b', sm, xs, a, bb, c, h1, h2, h3, rfl⟩ := outer
  rw [Nat.zero_add, range_len] at h1 b'
  refine ⟨xs, S', ?_, h1, h2, h3, b', sm⟩
  have hit := it1 S k (by omega)
  simp [Co.fn__law_named, parE, hit] at o1 ⊢
  rw [o1]
  simp
end
end Pi

end
section
set_option linter.all false
set_option maxRecDepth 100000
/-! PiRp: repr of what is small is a text. -/
namespace Pi
open PySem
def Sok (x : Str) : Prop := ∀ c ∈ x.cps.toList, c < 0x110000
theorem sok_is {x : Str} (h : Sok x) : PyData.strOk x = true := by
  show x.cps.all (· < 0x110000) = true
  rw [← Array.all_toList, List.all_eq_true]
  exact fun c hc => decide_eq_true (h c hc)
theorem sok_of {x : Str} (h : PyData.strOk x = true) : Sok x := by
  have h : x.cps.all (· < 0x110000) = true := h
  rw [← Array.all_toList, List.all_eq_true] at h
  exact fun c hc => of_decide_eq_true (h c hc)
theorem app_cps (a b : Str) : (a ++ b).cps.toList = a.cps.toList ++ b.cps.toList := by
  show (a.cps ++ b.cps).toList = _
  rw [Array.toList_append]
theorem sok_app {a b : Str} (ha : Sok a) (hb : Sok b) : Sok (a ++ b) := fun c hc => by
  rw [app_cps] at hc
  rcases List.mem_append.mp hc with h | h
  · exact ha c h
  · exact hb c h
theorem sok_lit (s : String) : Sok (Str.ofString s) := fun c hc => by
  rw [Str.ofString_eq_toList] at hc
  have hc : c ∈ s.toList.map Char.toNat := hc
  obtain ⟨d, _, rfl⟩ := List.mem_map.mp hc
  have := d.valid
  have e : d.toNat = d.val.toNat := rfl
  rw [e]
  rcases this with h | ⟨_, h⟩
  · have : d.val.toNat < 0xd800 := h
    omega
  · exact h
theorem sok_join {s : Str} (hs : Sok s) : ∀ {l : List Str}, (∀ x ∈ l, Sok x) → Sok (Str.join s l)
  | [], _ => fun c hc => by cases hc
  | [x], h => h x (List.mem_cons_self ..)
  | x :: y :: r, h => sok_app (sok_app (h x (List.mem_cons_self ..)) hs) (sok_join hs fun z hz => h z (List.mem_cons_of_mem _ hz))
theorem sok_from : ∀ (l : List Str) (k : Nat) (acc : Str), Sok acc → (∀ x ∈ l, Sok x) → Sok (textFrom k acc l)
  | [], _, _, h, _ => h
  | t :: r, k, acc, h, hl => sok_from r (k + 1) _ (sok_app (sok_app h (sok_lit _)) (hl t (List.mem_cons_self ..))) fun z hz => hl z (List.mem_cons_of_mem _ hz)
theorem sok_ltext {l : List Str} (h : ∀ x ∈ l, Sok x) : Sok (listText l) := sok_app (sok_from l 0 _ (sok_lit _) h) (sok_lit _)
theorem sok_ttext {l : List Str} (h : ∀ x ∈ l, Sok x) : Sok (tupleText l) := sok_app (sok_app (sok_lit _) (sok_join (sok_lit _) h)) (sok_lit _)
theorem chr_small (d : Char) : d.toNat < 0x110000 := by
  have := d.valid
  have e : d.toNat = d.val.toNat := rfl
  rw [e]
  rcases this with h | ⟨_, h⟩
  · have : d.val.toNat < 0xd800 := h
    omega
  · exact h
theorem hex_small (w c : Nat) : ∀ x ∈ List.replicate (w - ((Nat.toDigits 16 c).map Char.toNat).length) 48 ++ (Nat.toDigits 16 c).map Char.toNat, x < 0x110000 := by
  intro x hx
  rcases List.mem_append.mp hx with h | h
  · have := (List.mem_replicate.mp h).2
    omega
  · obtain ⟨d, _, rfl⟩ := List.mem_map.mp h
    exact chr_small d
theorem chr_ok {q c : Nat} (hc : c < 0x110000) : ∀ x ∈ Builtin.Str.reprChar q c, x < 0x110000 := by
  intro x hx
  unfold Builtin.Str.reprChar at hx
  simp only at hx
  have two : ∀ {a b : Nat}, a < 0x110000 → b < 0x110000 → x ∈ [a, b] → x < 0x110000 := fun ha hb h => by
    rcases List.mem_cons.mp h with h | h
    · omega
    · have := List.mem_singleton.mp h
      omega
  split at hx
  · exact two (by omega) hc hx
  split at hx
  · exact two (by omega) (by omega) hx
  split at hx
  · exact two (by omega) (by omega) hx
  split at hx
  · exact two (by omega) (by omega) hx
  split at hx
  · have := List.mem_singleton.mp hx
    omega
  split at hx
  · rcases List.mem_append.mp hx with h | h
    · exact two (by omega) (by omega) h
    · exact hex_small _ _ x h
  split at hx
  · rcases List.mem_append.mp hx with h | h
    · exact two (by omega) (by omega) h
    · exact hex_small _ _ x h
  · rcases List.mem_append.mp hx with h | h
    · exact two (by omega) (by omega) h
    · exact hex_small _ _ x h
theorem fold_ok (q : Nat) : ∀ (l : List Nat) (acc : Array Nat), (∀ c ∈ l, c < 0x110000) → (∀ c ∈ acc.toList, c < 0x110000) → ∀ c ∈ (l.foldl (fun out c => out ++ (Builtin.Str.reprChar q c).toArray) acc).toList, c < 0x110000
  | [], _, _, h => h
  | d :: r, acc, hl, h => fold_ok q r _ (fun c hc => hl c (List.mem_cons_of_mem _ hc)) fun c hc => by
    rw [Array.toList_append] at hc
    rcases List.mem_append.mp hc with h1 | h1
    · exact h c h1
    · exact chr_ok (hl d (List.mem_cons_self ..)) c h1
theorem sok_repr {x : Str} (h : Sok x) : Sok (reprText x) := by
  have hq : reprQuote x < 0x110000 := by
    unfold reprQuote
    split <;> omega
  intro c hc
  have hc : c ∈ ((x.cps.foldl (fun out c => out ++ (Builtin.Str.reprChar (reprQuote x) c).toArray) #[reprQuote x]).push (reprQuote x)).toList := hc
  rw [Array.toList_push, ← Array.foldl_toList] at hc
  rcases List.mem_append.mp hc with h1 | h1
  · refine fold_ok (reprQuote x) _ _ h (fun c hc => ?_) c h1
    have := List.mem_singleton.mp (show c ∈ [reprQuote x] from hc)
    omega
  · have := List.mem_singleton.mp h1
    omega
mutual
/-- at most how long its repr is -/
def szV : Val → Option Nat
  | .non => some 8
  | .bl _ => some 8
  | .int i => if i.natAbs < 10 ^ 100 then some 102 else none
  | .str x => if x.length ≤ 1000 ∧ PyData.strOk x = true then some (10 * x.length + 2) else none
  | .tup l => (szVs l).map (· + 3)
  | .lst l => (szVs l).map (· + 3)
  | _ => none
def szVs : List Val → Option Nat
  | [] => some 0
  | v :: r => match szV v, szVs r with
    | some a, some b => some (a + b + 2)
    | _, _ => none
end
theorem lit_len (s : String) : (Str.ofString s).length = s.length := by
  rw [Str.ofString_eq_toList]
  show (s.toList.map Char.toNat).toArray.size = _
  rw [List.size_toArray, List.length_map, String.length_toList]
mutual
theorem sz_ok : ∀ {v : Val} {n : Nat}, szV v = some n → (toD v).shown.length ≤ n ∧ Sok (toD v).shown ∧ (toD v).showable = true
  | .non, n, h => by
    cases h
    exact ⟨by show (Str.ofString "None").length ≤ 8; rw [lit_len]; decide, sok_lit _, rfl⟩
  | .bl b, n, h => by
    cases h
    cases b
    · exact ⟨by show (Str.ofString "False").length ≤ 8; rw [lit_len]; decide, sok_lit "False", rfl⟩
    · exact ⟨by show (Str.ofString "True").length ≤ 8; rw [lit_len]; decide, sok_lit "True", rfl⟩
  | .int i, n, h => by
    have h : (if i.natAbs < 10 ^ 100 then some 102 else none) = some n := h
    split at h
    · rename_i c
      cases h
      refine ⟨?_, sok_lit _, ?_⟩
      · show (Str.ofString (toString i)).length ≤ 102
        rw [lit_len]
        have := int_text_length_le10 (k := 100) (by omega) c
        omega
      · show decide (i.natAbs.log2 < 1920) = true
        refine decide_eq_true ?_
        by_cases z : i.natAbs = 0
        · rw [z]
          decide
        · exact (Nat.log2_lt z).mpr (Nat.lt_trans c (by decide +kernel))
    · cases h
  | .str x, n, h => by
    have h : (if x.length ≤ 1000 ∧ PyData.strOk x = true then some (10 * x.length + 2) else none) = some n := h
    split at h
    · rename_i c
      cases h
      have so := sok_of c.2
      exact ⟨StrLaws.reprText_len x fun d hd => Nat.lt_of_lt_of_le (so d hd) (by decide), sok_repr so, rfl⟩
    · cases h
  | .tup l, n, h => by
    obtain ⟨m, h1, rfl⟩ := Option.map_eq_some_iff.mp (show (szVs l).map (· + 3) = some n from h)
    obtain ⟨a, b, c⟩ := szs_ok h1
    refine ⟨?_, sok_ttext b, c⟩
    have := tupleText_len_le (PyData.shownAll (toDs l))
    show (tupleText (PyData.shownAll (toDs l))).length ≤ _
    omega
  | .lst l, n, h => by
    obtain ⟨m, h1, rfl⟩ := Option.map_eq_some_iff.mp (show (szVs l).map (· + 3) = some n from h)
    obtain ⟨a, b, c⟩ := szs_ok h1
    refine ⟨?_, sok_ltext b, c⟩
    have := listText_len_le (PyData.shownAll (toDs l))
    show (listText (PyData.shownAll (toDs l))).length ≤ _
    omega
  | .loc _, _, h => by cases h
  | .exn _ _, _, h => by cases h
  | .dct _ _, _, h => by cases h
theorem szs_ok : ∀ {l : List Val} {n : Nat}, szVs l = some n →
    ((PyData.shownAll (toDs l)).map (·.length)).sum + 2 * (PyData.shownAll (toDs l)).length ≤ n ∧ (∀ x ∈ PyData.shownAll (toDs l), Sok x) ∧ PyData.showableAll (toDs l) = true
  | [], n, h => by
    cases h
    exact ⟨Nat.le_refl _, (fun _ h => (by cases h)), rfl⟩
  | v :: r, n, h => by
    have h : (match szV v, szVs r with
      | some a, some b => some (a + b + 2)
      | _, _ => none) = some n := h
    cases e1 : szV v with
    | none => rw [e1] at h; cases h
    | some a => cases e2 : szVs r with
      | none => rw [e1, e2] at h; cases h
      | some b =>
        rw [e1, e2] at h
        cases h
        obtain ⟨a1, a2, a3⟩ := sz_ok e1
        obtain ⟨b1, b2, b3⟩ := szs_ok e2
        refine ⟨?_, fun x hx => ?_, ?_⟩
        · show (((toD v).shown :: PyData.shownAll (toDs r)).map (·.length)).sum + 2 * ((toD v).shown :: PyData.shownAll (toDs r)).length ≤ _
          rw [List.map_cons, List.sum_cons, List.length_cons]
          omega
        · rcases List.mem_cons.mp (show x ∈ (toD v).shown :: PyData.shownAll (toDs r) from hx) with rfl | h
          · exact a2
          · exact b2 x h
        · show ((toD v).showable && PyData.showableAll (toDs r)) = true
          rw [a3, b3]
          rfl
end
theorem repr_sz {v : Val} {n : Nat} (h : szV v = some n) (hn : n ≤ 16777216) (hd : datV v = true) : reprV v = some (.str (toD v).shown) := by
  obtain ⟨a, b, c⟩ := sz_ok h
  unfold reprV reprOk
  rw [hd, c, sok_is b, decide_eq_true (show (toD v).shown.length ≤ lim by show _ ≤ 16777216; omega)]
  rfl
end Pi

end
section
set_option linter.all false
set_option maxRecDepth 100000
/-! SyA: sayings, as values. -/
namespace Pi
open PySem
inductive Sy where
  | atm (u : Bool) (n : Str) (k : Int)
  | nt (s : Sy)
  | two (o : Bool) (a b : Sy)
  | win (o : Bool) (n f : Nat) (s : Sy)
  | unt (n f : Nat) (a b : Sy)
  deriving DecidableEq
def wA : Bool → Str
  | false => "least"
  | true => "most"
def wP : Bool → Str
  | false => "both"
  | true => "either"
def wW : Bool → Str
  | false => "always"
  | true => "sometime"
def Sy.v : Sy → Val
  | .atm u n k => .tup [.str (wA u), .str n, .int k]
  | .nt s => .tup [.str "not", s.v]
  | .two o a b => .tup [.str (wP o), a.v, b.v]
  | .win o n f s => .tup [.str (wW o), .int n, .int f, s.v]
  | .unt n f a b => .tup [.str "until", .int n, .int f, a.v, b.v]
/-- how deep: 1 and more -/
def Sy.dep : Sy → Nat
  | .atm _ _ _ => 1
  | .nt s => s.dep + 1
  | .two _ a b => max a.dep b.dep + 1
  | .win _ _ _ s => s.dep + 1
  | .unt _ _ a b => max a.dep b.dep + 1
def Sy.parts : Sy → Nat
  | .atm _ _ _ => 1
  | .nt s => s.parts + 1
  | .two _ a b => a.parts + b.parts + 1
  | .win _ _ _ s => s.parts + 1
  | .unt _ _ a b => a.parts + b.parts + 1
def Sy.inner : Sy → List Sy
  | .atm _ _ _ => []
  | .nt s => [s]
  | .two _ a b => [a, b]
  | .win _ _ _ s => [s]
  | .unt _ _ a b => [a, b]
/-- windows to 6, numbers to 99, names as they should be -/
def Sy.Ok : Sy → Prop
  | .atm _ n k => Nice n ∧ -99 ≤ k ∧ k ≤ 99
  | .nt s => s.Ok
  | .two _ a b => a.Ok ∧ b.Ok
  | .win _ n f s => n ≤ f ∧ f ≤ 6 ∧ s.Ok
  | .unt n f a b => n ≤ f ∧ f ≤ 6 ∧ a.Ok ∧ b.Ok
theorem sy_dep0 : ∀ s : Sy, 1 ≤ s.dep
  | .atm _ _ _ => Nat.le_refl _
  | .nt s => by show 1 ≤ s.dep + 1; omega
  | .two _ a b => by show 1 ≤ max a.dep b.dep + 1; omega
  | .win _ _ _ s => by show 1 ≤ s.dep + 1; omega
  | .unt _ _ a b => by show 1 ≤ max a.dep b.dep + 1; omega
theorem sy_parts0 : ∀ s : Sy, 1 ≤ s.parts
  | .atm _ _ _ => Nat.le_refl _
  | .nt s => by show 1 ≤ s.parts + 1; omega
  | .two _ a b => by show 1 ≤ a.parts + b.parts + 1; omega
  | .win _ _ _ s => by show 1 ≤ s.parts + 1; omega
  | .unt _ _ a b => by show 1 ≤ a.parts + b.parts + 1; omega
theorem sy_depV : ∀ s : Sy, depV s.v = some s.dep := by
  intro s
  induction s with
  | atm u n k => rfl
  | nt s ih => simp [Sy.v, depV, depVs, ih, Sy.dep]
  | two o a b iha ihb => simp [Sy.v, depV, depVs, iha, ihb, Sy.dep]
  | win o n f s ih => simp [Sy.v, depV, depVs, ih, Sy.dep]
  | unt n f a b iha ihb => simp [Sy.v, depV, depVs, iha, ihb, Sy.dep]
theorem sy_dat {s : Sy} (h : s.dep ≤ 60) : datV s.v = true := by
  unfold datV
  rw [sy_depV]
  exact decide_eq_true h
/-! ### equal just where alike -/
mutual
def noBl : Val → Bool
  | .int _ => true
  | .str _ => true
  | .non => true
  | .tup l => noBls l
  | .lst l => noBls l
  | _ => false
def noBls : List Val → Bool
  | [] => true
  | v :: r => noBl v && noBls r
end
mutual
theorem eqV_iff : ∀ {a b : Val}, noBl a = true → noBl b = true → (eqV a b = true ↔ a = b)
  | .int x, b, _, h => by
    cases b <;> first | (cases h; done) | skip
    · exact ⟨fun z => (by cases z), fun z => (by cases z)⟩
    · rename_i y
      exact ⟨fun z => by rw [eq_of_beq (show (x == y) = true from z)], fun z => by cases z; exact beq_self_eq_true x⟩
    · exact ⟨fun z => (by cases z), fun z => (by cases z)⟩
    · exact ⟨fun z => (by cases z), fun z => (by cases z)⟩
    · exact ⟨fun z => (by cases z), fun z => (by cases z)⟩
  | .str x, b, _, h => by
    cases b <;> first | (cases h; done) | skip
    · exact ⟨fun z => (by cases z), fun z => (by cases z)⟩
    · exact ⟨fun z => (by cases z), fun z => (by cases z)⟩
    · rename_i y
      exact ⟨fun z => by rw [eq_of_beq (show (x == y) = true from z)], fun z => by cases z; exact beq_self_eq_true x⟩
    · exact ⟨fun z => (by cases z), fun z => (by cases z)⟩
    · exact ⟨fun z => (by cases z), fun z => (by cases z)⟩
  | .non, b, _, h => by
    cases b <;> first | (cases h; done) | skip
    · exact ⟨fun _ => rfl, fun _ => rfl⟩
    · exact ⟨fun z => (by cases z), fun z => (by cases z)⟩
    · exact ⟨fun z => (by cases z), fun z => (by cases z)⟩
    · exact ⟨fun z => (by cases z), fun z => (by cases z)⟩
    · exact ⟨fun z => (by cases z), fun z => (by cases z)⟩
  | .tup x, b, g, h => by
    cases b <;> first | (cases h; done) | skip
    · exact ⟨fun z => (by cases z), fun z => (by cases z)⟩
    · exact ⟨fun z => (by cases z), fun z => (by cases z)⟩
    · exact ⟨fun z => (by cases z), fun z => (by cases z)⟩
    · rename_i y
      have ih := eqVs_iff (a := x) (b := y) g h
      exact ⟨fun z => by rw [ih.mp z], fun z => by cases z; exact ih.mpr rfl⟩
    · exact ⟨fun z => (by cases z), fun z => (by cases z)⟩
  | .lst x, b, g, h => by
    cases b <;> first | (cases h; done) | skip
    · exact ⟨fun z => (by cases z), fun z => (by cases z)⟩
    · exact ⟨fun z => (by cases z), fun z => (by cases z)⟩
    · exact ⟨fun z => (by cases z), fun z => (by cases z)⟩
    · exact ⟨fun z => (by cases z), fun z => (by cases z)⟩
    · rename_i y
      have ih := eqVs_iff (a := x) (b := y) g h
      exact ⟨fun z => by rw [ih.mp z], fun z => by cases z; exact ih.mpr rfl⟩
  | .bl _, _, h, _ => by cases h
  | .loc _, _, h, _ => by cases h
  | .exn _ _, _, h, _ => by cases h
  | .dct _ _, _, h, _ => by cases h
theorem eqVs_iff : ∀ {a b : List Val}, noBls a = true → noBls b = true → (eqVs a b = true ↔ a = b)
  | [], [], _, _ => ⟨fun _ => rfl, fun _ => rfl⟩
  | [], _ :: _, _, _ => ⟨fun z => (by cases z), fun z => (by cases z)⟩
  | _ :: _, [], _, _ => ⟨fun z => (by cases z), fun z => (by cases z)⟩
  | x :: r, y :: t, g, h => by
    have g : (noBl x && noBls r) = true := g
    have h : (noBl y && noBls t) = true := h
    rw [Bool.and_eq_true] at g h
    have i1 := eqV_iff g.1 h.1
    have i2 := eqVs_iff g.2 h.2
    show (eqV x y && eqVs r t) = true ↔ _
    rw [Bool.and_eq_true, i1, i2, List.cons.injEq]
end
theorem sy_noBl : ∀ s : Sy, noBl s.v = true := by
  intro s
  induction s with
  | atm u n k => rfl
  | nt s ih => simp [Sy.v, noBl, noBls, ih]
  | two o a b iha ihb => simp [Sy.v, noBl, noBls, iha, ihb]
  | win o n f s ih => simp [Sy.v, noBl, noBls, ih]
  | unt n f a b iha ihb => simp [Sy.v, noBl, noBls, iha, ihb]
theorem wA_inj {a b : Bool} (h : wA a = wA b) : a = b := by
  cases a <;> cases b <;> first | rfl | (revert h; decide +kernel)
theorem wP_inj {a b : Bool} (h : wP a = wP b) : a = b := by
  cases a <;> cases b <;> first | rfl | (revert h; decide +kernel)
theorem wW_inj {a b : Bool} (h : wW a = wW b) : a = b := by
  cases a <;> cases b <;> first | rfl | (revert h; decide +kernel)
theorem sy_str (s : Sy) (x : Str) : s.v ≠ .str x := by cases s <;> (intro h; cases h)
theorem sy_inj : ∀ a b : Sy, a.v = b.v → a = b := by
  intro a
  induction a with
  | atm u n k =>
    intro b h
    cases b with
    | atm u' n' k' =>
      simp only [Sy.v, Val.tup.injEq, List.cons.injEq, Val.str.injEq, Val.int.injEq] at h
      rw [wA_inj h.1, h.2.1, h.2.2.1]
    | two o a b =>
      simp only [Sy.v, Val.tup.injEq, List.cons.injEq] at h
      exact absurd h.2.1.symm (sy_str _ _)
    | _ => simp [Sy.v] at h
  | nt s ih =>
    intro b h
    cases b with
    | nt t =>
      simp only [Sy.v, Val.tup.injEq, List.cons.injEq] at h
      rw [ih t h.2.1]
    | _ => simp [Sy.v] at h
  | two o x y ihx ihy =>
    intro b h
    cases b with
    | two o' x' y' =>
      simp only [Sy.v, Val.tup.injEq, List.cons.injEq, Val.str.injEq] at h
      rw [wP_inj h.1, ihx x' h.2.1, ihy y' h.2.2.1]
    | atm u' n' k' =>
      simp only [Sy.v, Val.tup.injEq, List.cons.injEq] at h
      exact absurd h.2.1 (sy_str _ _)
    | _ => simp [Sy.v] at h
  | win o n f s ih =>
    intro b h
    cases b with
    | win o' n' f' t =>
      simp only [Sy.v, Val.tup.injEq, List.cons.injEq, Val.str.injEq, Val.int.injEq] at h
      rw [wW_inj h.1, ih t h.2.2.2.1, Int.ofNat.inj h.2.1, Int.ofNat.inj h.2.2.1]
    | _ => simp [Sy.v] at h
  | unt n f x y ihx ihy =>
    intro b h
    cases b with
    | unt n' f' x' y' =>
      simp only [Sy.v, Val.tup.injEq, List.cons.injEq, Val.int.injEq] at h
      rw [ihx x' h.2.2.2.1, ihy y' h.2.2.2.2.1, Int.ofNat.inj h.2.1, Int.ofNat.inj h.2.2.1]
    | _ => simp [Sy.v] at h
theorem sy_eq (a b : Sy) : eqV a.v b.v = decide (a = b) := by
  have i := eqV_iff (sy_noBl a) (sy_noBl b)
  by_cases h : a = b
  · subst h
    rw [decide_eq_true rfl]
    exact i.mpr rfl
  · rw [decide_eq_false h]
    cases e : eqV a.v b.v with
    | false => rfl
    | true => exact absurd (sy_inj _ _ (i.mp e)) h
theorem sy_cmp {a b : Sy} (ha : a.dep ≤ 60) (hb : b.dep ≤ 60) : cmpV .eq a.v b.v = some (decide (a = b)) := by
  show (if datV a.v && datV b.v then some (eqV a.v b.v) else none) = _
  rw [sy_dat ha, sy_dat hb, sy_eq]
  rfl
/-! ### its repr, its goodness -/
theorem nice_sz {x : Str} (h : Nice x) : ∃ n, szV (.str x) = some n ∧ n ≤ 100 := by
  have h1 := h.b
  have so : PyData.strOk x = true := sok_is fun c hc => by
    have := h.l c hc
    omega
  refine ⟨10 * x.length + 2, ?_, by omega⟩
  show (if x.length ≤ 1000 ∧ PyData.strOk x = true then some (10 * x.length + 2) else none) = _
  rw [if_pos ⟨by omega, so⟩]
theorem int_sz {i : Int} (h : i.natAbs < 10 ^ 100) : szV (.int i) = some 102 := by
  show (if i.natAbs < 10 ^ 100 then some 102 else none) = _
  rw [if_pos h]
theorem wA_sz (u : Bool) : ∃ n, szV (.str (wA u)) = some n ∧ n ≤ 100 := by cases u <;> exact ⟨_, if_pos (by decide +kernel), by decide +kernel⟩
theorem wP_sz (u : Bool) : ∃ n, szV (.str (wP u)) = some n ∧ n ≤ 100 := by cases u <;> exact ⟨_, if_pos (by decide +kernel), by decide +kernel⟩
theorem wW_sz (u : Bool) : ∃ n, szV (.str (wW u)) = some n ∧ n ≤ 100 := by cases u <;> exact ⟨_, if_pos (by decide +kernel), by decide +kernel⟩
theorem szs_nil : szVs [] = some 0 := rfl
theorem szs_cons {v : Val} {r : List Val} {a b : Nat} (h1 : szV v = some a) (h2 : szVs r = some b) : szVs (v :: r) = some (a + b + 2) := by
  show (match szV v, szVs r with
    | some a, some b => some (a + b + 2)
    | _, _ => none) = _
  rw [h1, h2]
theorem tup_sz {l : List Val} {n : Nat} (h : szVs l = some n) : szV (.tup l) = some (n + 3) := by
  show (szVs l).map (· + 3) = _
  rw [h]
  rfl
theorem lst_sz {l : List Val} {n : Nat} (h : szVs l = some n) : szV (.lst l) = some (n + 3) := by
  show (szVs l).map (· + 3) = _
  rw [h]
  rfl
theorem small_pow {i : Int} (h : i.natAbs ≤ 1000) : i.natAbs < 10 ^ 100 := Nat.lt_of_le_of_lt h (by decide +kernel)
theorem sy_sz : ∀ s : Sy, s.Ok → ∃ n, szV s.v = some n ∧ n ≤ 1000 * s.parts := by
  intro s
  induction s with
  | atm u n k =>
    intro h
    obtain ⟨a, e1, h1⟩ := wA_sz u
    obtain ⟨b, e2, h2⟩ := nice_sz h.1
    have h3 := h.2
    refine ⟨_, tup_sz (szs_cons e1 (szs_cons e2 (szs_cons (int_sz (small_pow (by omega))) szs_nil))), ?_⟩
    show _ ≤ 1000 * 1
    omega
  | nt s ih =>
    intro h
    obtain ⟨a, e1, h1⟩ := ih h
    have e2 : szV (.str "not") = some 32 := if_pos (by decide +kernel)
    refine ⟨_, tup_sz (szs_cons e2 (szs_cons e1 szs_nil)), ?_⟩
    show _ ≤ 1000 * (s.parts + 1)
    omega
  | two o x y ihx ihy =>
    intro h
    obtain ⟨a, e1, h1⟩ := ihx h.1
    obtain ⟨b, e2, h2⟩ := ihy h.2
    obtain ⟨c, e3, h3⟩ := wP_sz o
    refine ⟨_, tup_sz (szs_cons e3 (szs_cons e1 (szs_cons e2 szs_nil))), ?_⟩
    show _ ≤ 1000 * (x.parts + y.parts + 1)
    omega
  | win o n f s ih =>
    intro h
    obtain ⟨a, e1, h1⟩ := ih h.2.2
    obtain ⟨c, e3, h3⟩ := wW_sz o
    have h4 := h.1
    have h5 := h.2.1
    refine ⟨_, tup_sz (szs_cons e3 (szs_cons (int_sz (small_pow (by omega))) (szs_cons (int_sz (small_pow (by omega))) (szs_cons e1 szs_nil)))), ?_⟩
    show _ ≤ 1000 * (s.parts + 1)
    omega
  | unt n f x y ihx ihy =>
    intro h
    obtain ⟨a, e1, h1⟩ := ihx h.2.2.1
    obtain ⟨b, e2, h2⟩ := ihy h.2.2.2
    have e3 : szV (.str "until") = some 52 := if_pos (by decide +kernel)
    have h4 := h.1
    have h5 := h.2.1
    refine ⟨_, tup_sz (szs_cons e3 (szs_cons (int_sz (small_pow (by omega))) (szs_cons (int_sz (small_pow (by omega))) (szs_cons e1 (szs_cons e2 szs_nil))))), ?_⟩
    show _ ≤ 1000 * (x.parts + y.parts + 1)
    omega
theorem sy_repr {s : Sy} (h : s.Ok) (hp : s.parts ≤ 10000) (hd : s.dep ≤ 60) : reprV s.v = some (.str (toD s.v).shown) := by
  obtain ⟨n, e, hn⟩ := sy_sz s h
  exact repr_sz e (by omega) (sy_dat hd)
theorem good_up : ∀ {n : Nat} {v : Val}, goodV n v = true → goodV (n + 1) v = true
  | n, .non, _ => by cases n <;> rfl
  | n, .bl _, _ => by cases n <;> rfl
  | n, .int _, _ => by cases n <;> rfl
  | n, .str _, _ => by cases n <;> rfl
  | 0, .tup l, h => by cases h
  | n + 1, .tup l, h => by
    have h : (decide (l.length ≤ lim) && l.all (goodV n)) = true := h
    show (decide (l.length ≤ lim) && l.all (goodV (n + 1))) = true
    rw [Bool.and_eq_true] at h ⊢
    exact ⟨h.1, List.all_eq_true.mpr fun x hx => good_up (List.all_eq_true.mp h.2 x hx)⟩
  | 0, .lst l, h => by cases h
  | n + 1, .lst l, h => by
    have h : (decide (l.length ≤ lim) && l.all (goodV n)) = true := h
    show (decide (l.length ≤ lim) && l.all (goodV (n + 1))) = true
    rw [Bool.and_eq_true] at h ⊢
    exact ⟨h.1, List.all_eq_true.mpr fun x hx => good_up (List.all_eq_true.mp h.2 x hx)⟩
  | n, .loc _, h => by cases n <;> cases h
  | n, .exn _ _, h => by cases n <;> cases h
  | n, .dct _ _, h => by cases n <;> cases h
theorem good_le {n m : Nat} {v : Val} (h : goodV n v = true) (hnm : n ≤ m) : goodV m v = true := by
  induction hnm with
  | refl => exact h
  | step _ ih => exact good_up ih
theorem good_tup {n : Nat} {l : List Val} (hl : l.length ≤ 64) (h : ∀ x ∈ l, goodV n x = true) : goodV (n + 1) (.tup l) = true := by
  show (decide (l.length ≤ lim) && l.all (goodV n)) = true
  rw [Bool.and_eq_true]
  exact ⟨decide_eq_true (by show _ ≤ 16777216; omega), List.all_eq_true.mpr h⟩
theorem good_lst {n : Nat} {l : List Val} (hl : l.length ≤ 64) (h : ∀ x ∈ l, goodV n x = true) : goodV (n + 1) (.lst l) = true := by
  show (decide (l.length ≤ lim) && l.all (goodV n)) = true
  rw [Bool.and_eq_true]
  exact ⟨decide_eq_true (by show _ ≤ 16777216; omega), List.all_eq_true.mpr h⟩
theorem good_s (n : Nat) (x : Str) : goodV n (.str x) = true := by cases n <;> rfl
theorem good_i (n : Nat) (x : Int) : goodV n (.int x) = true := by cases n <;> rfl
theorem good_b (n : Nat) (x : Bool) : goodV n (.bl x) = true := by cases n <;> rfl
theorem sy_good : ∀ s : Sy, goodV s.dep s.v = true := by
  intro s
  induction s with
  | atm u n k => exact good_tup (n := 0) (by simp) (by simp [good_s, good_i])
  | nt s ih => exact good_tup (by simp) (by simp [ih, good_s])
  | two o a b iha ihb =>
    have h1 := good_le iha (Nat.le_max_left a.dep b.dep)
    have h2 := good_le ihb (Nat.le_max_right a.dep b.dep)
    exact good_tup (by simp) (by simp [h1, h2, good_s])
  | win o n f s ih => exact good_tup (by simp) (by simp [ih, good_s, good_i])
  | unt n f a b iha ihb =>
    have h1 := good_le iha (Nat.le_max_left a.dep b.dep)
    have h2 := good_le ihb (Nat.le_max_right a.dep b.dep)
    exact good_tup (by simp) (by simp [h1, h2, good_s, good_i])
end Pi

end
section
set_option linter.all false
set_option maxRecDepth 100000
/-! SyB: the words of sayings (printed by mkSyB.py). -/
namespace Pi
open PySem
@[simp] theorem bb_eq (u w : Bool) : (wA u == wA w) = (u == w) := by cases u <;> cases w <;> decide +kernel
@[simp] theorem pp_eq (u w : Bool) : (wP u == wP w) = (u == w) := by cases u <;> cases w <;> decide +kernel
@[simp] theorem ww_eq (u w : Bool) : (wW u == wW w) = (u == w) := by cases u <;> cases w <;> decide +kernel
@[simp] theorem nn_eq : (("not" : Str) == ("not" : Str)) = true := by decide +kernel
@[simp] theorem uu_eq : (("until" : Str) == ("until" : Str)) = true := by decide +kernel
@[simp] theorem eq_AP (u w : Bool) : (wA u == wP w) = false := by cases u <;> cases w <;> decide +kernel
@[simp] theorem eq_AW (u w : Bool) : (wA u == wW w) = false := by cases u <;> cases w <;> decide +kernel
@[simp] theorem eq_AN (u : Bool) : (wA u == ("not" : Str)) = false := by cases u <;> decide +kernel
@[simp] theorem eq_AU (u : Bool) : (wA u == ("until" : Str)) = false := by cases u <;> decide +kernel
@[simp] theorem eq_PA (u w : Bool) : (wP u == wA w) = false := by cases u <;> cases w <;> decide +kernel
@[simp] theorem eq_PW (u w : Bool) : (wP u == wW w) = false := by cases u <;> cases w <;> decide +kernel
@[simp] theorem eq_PN (u : Bool) : (wP u == ("not" : Str)) = false := by cases u <;> decide +kernel
@[simp] theorem eq_PU (u : Bool) : (wP u == ("until" : Str)) = false := by cases u <;> decide +kernel
@[simp] theorem eq_WA (u w : Bool) : (wW u == wA w) = false := by cases u <;> cases w <;> decide +kernel
@[simp] theorem eq_WP (u w : Bool) : (wW u == wP w) = false := by cases u <;> cases w <;> decide +kernel
@[simp] theorem eq_WN (u : Bool) : (wW u == ("not" : Str)) = false := by cases u <;> decide +kernel
@[simp] theorem eq_WU (u : Bool) : (wW u == ("until" : Str)) = false := by cases u <;> decide +kernel
@[simp] theorem eq_NA (w : Bool) : (("not" : Str) == wA w) = false := by cases w <;> decide +kernel
@[simp] theorem eq_NP (w : Bool) : (("not" : Str) == wP w) = false := by cases w <;> decide +kernel
@[simp] theorem eq_NW (w : Bool) : (("not" : Str) == wW w) = false := by cases w <;> decide +kernel
@[simp] theorem eq_NU : (("not" : Str) == ("until" : Str)) = false := by decide +kernel
@[simp] theorem eq_UA (w : Bool) : (("until" : Str) == wA w) = false := by cases w <;> decide +kernel
@[simp] theorem eq_UP (w : Bool) : (("until" : Str) == wP w) = false := by cases w <;> decide +kernel
@[simp] theorem eq_UW (w : Bool) : (("until" : Str) == wW w) = false := by cases w <;> decide +kernel
@[simp] theorem eq_UN : (("until" : Str) == ("not" : Str)) = false := by decide +kernel
@[simp] theorem in_aA (u : Bool) : cmpV .in_ (.str (wA u)) (.tup [.str "least", .str "most"]) = some true := by cases u <;> decide +kernel
@[simp] theorem in_aP (u : Bool) : cmpV .in_ (.str (wP u)) (.tup [.str "least", .str "most"]) = some false := by cases u <;> decide +kernel
@[simp] theorem in_aW (u : Bool) : cmpV .in_ (.str (wW u)) (.tup [.str "least", .str "most"]) = some false := by cases u <;> decide +kernel
@[simp] theorem in_aN : cmpV .in_ (.str (("not" : Str))) (.tup [.str "least", .str "most"]) = some false := by decide +kernel
@[simp] theorem in_aU : cmpV .in_ (.str (("until" : Str))) (.tup [.str "least", .str "most"]) = some false := by decide +kernel
@[simp] theorem in_pA (u : Bool) : cmpV .in_ (.str (wA u)) (.tup [.str "both", .str "either"]) = some false := by cases u <;> decide +kernel
@[simp] theorem in_pP (u : Bool) : cmpV .in_ (.str (wP u)) (.tup [.str "both", .str "either"]) = some true := by cases u <;> decide +kernel
@[simp] theorem in_pW (u : Bool) : cmpV .in_ (.str (wW u)) (.tup [.str "both", .str "either"]) = some false := by cases u <;> decide +kernel
@[simp] theorem in_pN : cmpV .in_ (.str (("not" : Str))) (.tup [.str "both", .str "either"]) = some false := by decide +kernel
@[simp] theorem in_pU : cmpV .in_ (.str (("until" : Str))) (.tup [.str "both", .str "either"]) = some false := by decide +kernel
@[simp] theorem in_wA (u : Bool) : cmpV .in_ (.str (wA u)) (.tup [.str "always", .str "sometime"]) = some false := by cases u <;> decide +kernel
@[simp] theorem in_wP (u : Bool) : cmpV .in_ (.str (wP u)) (.tup [.str "always", .str "sometime"]) = some false := by cases u <;> decide +kernel
@[simp] theorem in_wW (u : Bool) : cmpV .in_ (.str (wW u)) (.tup [.str "always", .str "sometime"]) = some true := by cases u <;> decide +kernel
@[simp] theorem in_wN : cmpV .in_ (.str (("not" : Str))) (.tup [.str "always", .str "sometime"]) = some false := by decide +kernel
@[simp] theorem in_wU : cmpV .in_ (.str (("until" : Str))) (.tup [.str "always", .str "sometime"]) = some false := by decide +kernel
@[simp] theorem in_tA (u : Bool) : cmpV .in_ (.str (wA u)) (.tup [.str "always", .str "sometime", .str "until"]) = some false := by cases u <;> decide +kernel
@[simp] theorem in_tP (u : Bool) : cmpV .in_ (.str (wP u)) (.tup [.str "always", .str "sometime", .str "until"]) = some false := by cases u <;> decide +kernel
@[simp] theorem in_tW (u : Bool) : cmpV .in_ (.str (wW u)) (.tup [.str "always", .str "sometime", .str "until"]) = some true := by cases u <;> decide +kernel
@[simp] theorem in_tN : cmpV .in_ (.str (("not" : Str))) (.tup [.str "always", .str "sometime", .str "until"]) = some false := by decide +kernel
@[simp] theorem in_tU : cmpV .in_ (.str (("until" : Str))) (.tup [.str "always", .str "sometime", .str "until"]) = some true := by decide +kernel
def Sy.word : Sy → Str
  | .atm u _ _ => wA u
  | .nt _ => "not"
  | .two o _ _ => wP o
  | .win o _ _ _ => wW o
  | .unt _ _ _ _ => "until"
@[simp] theorem sy_ix0 (S : Store) (s : Sy) : ixV S s.v (.int 0) = some (.str s.word) := by cases s <;> rfl
theorem at0 {α : Type} (x : α) (l : List α) : atI (x :: l) 0 = some x := by
  rw [show (0 : Int) = ((0 : Nat) : Int) from rfl, atI_nat]
  rfl
theorem at1 {α : Type} (x y : α) (l : List α) : atI (x :: y :: l) 1 = some y := by
  rw [show (1 : Int) = ((1 : Nat) : Int) from rfl, atI_nat]
  rfl
theorem at2 {α : Type} (x y z : α) (l : List α) : atI (x :: y :: z :: l) 2 = some z := by
  rw [show (2 : Int) = ((2 : Nat) : Int) from rfl, atI_nat]
  rfl
theorem at3 {α : Type} (x y z t : α) (l : List α) : atI (x :: y :: z :: t :: l) 3 = some t := by
  rw [show (3 : Int) = ((3 : Nat) : Int) from rfl, atI_nat]
  rfl
theorem addT {a b : List Val} (h : a.length + b.length ≤ 64) : binV .add (.tup a) (.tup b) = some (.tup (a ++ b)) := bv_addT (Nat.le_trans h limk)
theorem addL {a b : List Val} (h : a.length + b.length ≤ 64) : binV .add (.lst a) (.lst b) = some (.lst (a ++ b)) := bv_addL (Nat.le_trans h limk)
theorem z0 (f : Nat) : ((f : Int) == 0) = decide (f = 0) := by
  by_cases h : f = 0 <;> simp [h]
@[simp] theorem sy_isT (eb : String → Option String) (s : Sy) : isasV eb s.v [.tup] = some true := by cases s <;> rfl
@[simp] theorem sy_isN (s : Sy) : isN s.v = false := by cases s <;> rfl
end Pi

end
section
set_option linter.all false
set_option maxRecDepth 100000
/-! SyC: what the laws' own defs say of sayings. -/
namespace Pi
open PySem
namespace Co
def fn__law_inner : Fn := ⟨1, 2, [.ret (.comp 0 [(.lv 0)] (.v 1) [(.isa (.lv 1) [.tup])] (.lv 1))]⟩
def fn__law_parts : Fn := ⟨1, 2, [.ret (.bin .add (.cst (.int 1)) (.bi .sum [(.comp 0 [(.call "_law_inner" [(.lv 0)])] (.v 1) [] (.call "_law_parts" [(.lv 1)]))]))]⟩
def fn__law_deep : Fn := ⟨1, 2, [.ret (.bin .add (.cst (.int 1)) (.bi .maxL [(.bin .add (.comp 0 [(.call "_law_inner" [(.lv 0)])] (.v 1) [] (.call "_law_deep" [(.lv 1)])) (.lst [(.cst (.int 0))]))]))]⟩
def fn__law_is_number : Fn := ⟨3, 3, [.ret (.and [(.isa (.lv 0) [.int]), (.not (.isa (.lv 0) [.bool])), (.chain .le .le (.lv 1) (.lv 0) (.lv 2))])]⟩
def fn__law_is_name : Fn := ⟨1, 1, [.ite (.or [(.not (.isa (.lv 0) [.str])), (.cmp .in_ (.lv 0) (.tup [(.cst (.str "and")), (.cst (.str "or")), (.cst (.str "not")), (.cst (.str "until")), (.cst (.str "always")), (.cst (.str "sometime"))]))]) [.ret (.cst (.bl false))] [],
  .ret (.and [(.chain .lt .lt (.cst (.int 0)) (.bi .len [(.lv 0)]) (.cst (.int 9))), (.cmp .eq (.sm1 .strip (.lv 0) (.cst (.str "abcdefghijklmnopqrstuvwxyz"))) (.cst (.str "")))])]⟩
def fn__law_is_form : Fn := ⟨1, 5, [.ite (.or [(.not (.isa (.lv 0) [.tup])), (.cmp .eq (.lv 0) (.tup [])), (.not (.isa (.ix (.lv 0) (.cst (.int 0))) [.str]))]) [.ret (.cst (.bl false))] [],
  .ite (.cmp .in_ (.ix (.lv 0) (.cst (.int 0))) (.tup [(.cst (.str "least")), (.cst (.str "most"))])) [.ret (.and [(.cmp .eq (.bi .len [(.lv 0)]) (.cst (.int 3))), (.call "_law_is_name" [(.ix (.lv 0) (.cst (.int 1)))]), (.call "_law_is_number" [(.ix (.lv 0) (.cst (.int 2))), (.neg (.cst (.int 99))), (.cst (.int 99))])])] [],
  .asg (.v 1) (.dctE ["not", "both", "either", "always", "sometime", "until"] [(.tup [(.cst (.int 1)), (.cst (.int 1))]), (.tup [(.cst (.int 1)), (.cst (.int 2))]), (.tup [(.cst (.int 1)), (.cst (.int 2))]), (.tup [(.cst (.int 3)), (.cst (.int 1))]), (.tup [(.cst (.int 3)), (.cst (.int 1))]), (.tup [(.cst (.int 3)), (.cst (.int 2))])]),
  .asg (.tup [(.v 2), (.v 3)]) (.dget (.lv 1) (.ix (.lv 0) (.cst (.int 0))) [(.tup [(.cst (.int 0)), (.cst (.int 0))])]),
  .ite (.or [(.cmp .eq (.lv 2) (.cst (.int 0))), (.cmp .ne (.bi .len [(.lv 0)]) (.bin .add (.lv 2) (.lv 3)))]) [.ret (.cst (.bl false))] [],
  .ite (.and [(.cmp .eq (.lv 2) (.cst (.int 3))), (.not (.and [(.call "_law_is_number" [(.ix (.lv 0) (.cst (.int 1))), (.cst (.int 0)), (.cst (.int 6))]), (.call "_law_is_number" [(.ix (.lv 0) (.cst (.int 2))), (.ix (.lv 0) (.cst (.int 1))), (.cst (.int 6))])]))]) [.ret (.cst (.bl false))] [],
  .ret (.bi .all [(.comp 0 [(.sl (.lv 0) [(.lv 2)] [])] (.v 4) [] (.call "_law_is_form" [(.lv 4)]))])]⟩
def fn__law_is_saying : Fn := ⟨1, 1, [.ret (.and [(.call "_law_is_form" [(.lv 0)]), (.cmp .lt (.call "_law_parts" [(.lv 0)]) (.cst (.int 10))), (.cmp .lt (.call "_law_deep" [(.lv 0)]) (.cst (.int 6)))])]⟩
def fn__law_one_of : Fn := ⟨2, 2, [.ret (.ix (.lv 1) (.call "_law_take" [(.lv 0), (.bi .len [(.lv 1)])]))]⟩
def fn__law_any : Fn := ⟨5, 12, [.par [(5, false), (6, false), (7, false)] [(.call "_law_take" [(.lv 0), (.cst (.int 10))]), (.call "_law_take" [(.lv 0), (.bin .add (.bi .min2 [(.cst (.int 3)), (.lv 3)]) (.cst (.int 1)))]), (.call "_law_take" [(.lv 0), (.cst (.int 4))])],
  .asg (.v 7) (.bi .min3 [(.cst (.int 6)), (.lv 3), (.bin .add (.lv 6) (.lv 7))]),
  .ite (.or [(.cmp .eq (.lv 2) (.cst (.int 1))), (.cmp .eq (.lv 4) (.cst (.int 1))), (.cmp .eq (.lv 5) (.cst (.int 0)))]) [.ret (.tup [(.ix (.lst [(.cst (.str "least")), (.cst (.str "most"))]) (.call "_law_take" [(.lv 0), (.cst (.int 2))])), (.call "_law_one_of" [(.lv 0), (.lv 1)]), (.bin .sub (.call "_law_take" [(.lv 0), (.cst (.int 17))]) (.cst (.int 8)))])] [],
  .ite (.or [(.cmp .eq (.lv 2) (.cst (.int 2))), (.cmp .lt (.lv 5) (.cst (.int 5)))]) [.asg (.v 8) (.call "_law_any" [(.lv 0), (.lv 1), (.bin .sub (.lv 2) (.cst (.int 1))), (.bin .sub (.lv 3) (.bin .mul (.lv 7) (.bi .int [(.cmp .gt (.lv 5) (.cst (.int 1)))]))), (.bin .sub (.lv 4) (.cst (.int 1)))]), .ret (.ite (.cmp .lt (.lv 5) (.cst (.int 2))) (.tup [(.cst (.str "not")), (.lv 8)]) (.tup [(.ix (.lst [(.cst (.str "always")), (.cst (.str "sometime"))]) (.bin .mod (.lv 5) (.cst (.int 2)))), (.lv 6), (.lv 7), (.lv 8)]))] [],
  .asg (.v 9) (.bin .add (.cst (.int 1)) (.call "_law_take" [(.lv 0), (.bin .sub (.lv 2) (.cst (.int 2)))])),
  .asg (.v 10) (.comp 0 [(.tup [(.lv 9), (.bin .sub (.bin .sub (.lv 2) (.cst (.int 1))) (.lv 9))])] (.v 11) [] (.call "_law_any" [(.lv 0), (.lv 1), (.lv 11), (.bin .sub (.lv 3) (.bin .mul (.lv 7) (.bi .int [(.cmp .gt (.lv 5) (.cst (.int 7)))]))), (.bin .sub (.lv 4) (.cst (.int 1)))])),
  .ite (.cmp .gt (.lv 5) (.cst (.int 7))) [.ret (.tup [(.cst (.str "until")), (.lv 6), (.lv 7), (.ix (.lv 10) (.cst (.int 0))), (.ix (.lv 10) (.cst (.int 1)))])] [],
  .ret (.tup [(.ix (.lst [(.cst (.str "both")), (.cst (.str "either"))]) (.bin .mod (.lv 5) (.cst (.int 2)))), (.ix (.lv 10) (.cst (.int 0))), (.ix (.lv 10) (.cst (.int 1)))])]⟩
def fn__law_great : Fn := ⟨2, 5, [.par [(2, false), (3, false)] [(.bin .add (.cst (.int 1)) (.call "_law_take" [(.lv 0), (.cst (.int 9))])), (.bin .add (.cst (.int 1)) (.call "_law_take" [(.lv 0), (.cst (.int 5))]))],
  .asg (.v 4) (.call "_law_any" [(.lv 0), (.lv 1), (.lv 2), (.cst (.int 6)), (.lv 3)]),
  .ite (.cmp .eq (.call "_law_take" [(.lv 0), (.cst (.int 6))]) (.cst (.int 0))) [.asg (.v 4) (.call "_law_wide" [(.lv 0), (.lv 4)])] [],
  .ret (.lv 4)]⟩
def fn__law_wide : Fn := ⟨2, 5, [.ite (.cmp .in_ (.ix (.lv 1) (.cst (.int 0))) (.tup [(.cst (.str "least")), (.cst (.str "most"))])) [.ret (.bin .add (.sl (.lv 1) [] [(.cst (.int 2))]) (.tup [(.ix (.lst [(.cst (.int 99)), (.neg (.cst (.int 99))), (.cst (.int 0)), (.bin .sub (.call "_law_take" [(.lv 0), (.cst (.int 199))]) (.cst (.int 99)))]) (.call "_law_take" [(.lv 0), (.cst (.int 4))]))]))] [],
  .asg (.v 2) (.comp 0 [(.call "_law_inner" [(.lv 1)])] (.v 3) [] (.call "_law_wide" [(.lv 0), (.lv 3)])),
  .ite (.cmp .in_ (.ix (.lv 1) (.cst (.int 0))) (.tup [(.cst (.str "always")), (.cst (.str "sometime")), (.cst (.str "until"))])) [.asg (.v 4) (.call "_law_take" [(.lv 0), (.cst (.int 7))]), .ret (.bin .add (.tup [(.ix (.lv 1) (.cst (.int 0))), (.lv 4), (.bin .add (.lv 4) (.call "_law_take" [(.lv 0), (.bin .sub (.cst (.int 7)) (.lv 4))]))]) (.bi .tuple [(.lv 2)]))] [],
  .ret (.bin .add (.sl (.lv 1) [] [(.cst (.int 1))]) (.bi .tuple [(.lv 2)]))]⟩
end Co
section
variable {sg : Sig} {Φ : Tab}
theorem linner_ok (h : Φ "_law_inner" = some Co.fn__law_inner) (s : Sy) (d : Nat) (S : Store) : callF sg Φ (d + 1) "_law_inner" [s.v] S = .ok (.lst (s.inner.map Sy.v)) S := by
  rw [call_eq h rfl]
  cases s with
  | atm u n k => simp [Co.fn__law_inner, Sy.v, Sy.inner, itV, compGo, compF, wipeE, Pat.vars, isasV, isaV]
  | nt s => simp [Co.fn__law_inner, Sy.v, Sy.inner, itV, compGo, compF, wipeE, Pat.vars, lim, show isasV sg.eb (.str "not") [.tup] = some false from rfl]
  | two o a b => simp [Co.fn__law_inner, Sy.v, Sy.inner, itV, compGo, compF, wipeE, Pat.vars, lim, show isasV sg.eb (.str (wP o)) [.tup] = some false from rfl]
  | win o n f s => simp [Co.fn__law_inner, Sy.v, Sy.inner, itV, compGo, compF, wipeE, Pat.vars, lim, show isasV sg.eb (.str (wW o)) [.tup] = some false from rfl, show ∀ i : Int, isasV sg.eb (.int i) [.tup] = some false from fun _ => rfl]
  | unt n f a b => simp [Co.fn__law_inner, Sy.v, Sy.inner, itV, compGo, compF, wipeE, Pat.vars, lim, show isasV sg.eb (.str "until") [.tup] = some false from rfl, show ∀ i : Int, isasV sg.eb (.int i) [.tup] = some false from fun _ => rfl]
theorem parts_ok (hi : Φ "_law_inner" = some Co.fn__law_inner) (h : Φ "_law_parts" = some Co.fn__law_parts) : ∀ (s : Sy) {d : Nat} (S : Store), s.dep < d → callF sg Φ d "_law_parts" [s.v] S = .ok (.int s.parts) S := by
  intro s
  induction s with
  | atm u n k =>
    intro d S hd
    have hd : 1 < d := hd
    obtain ⟨k', rfl⟩ : ∃ k, d = k + 1 + 1 := ⟨d - 2, by omega⟩
    rw [call_eq h rfl]
    have i := linner_ok (sg := sg) hi (.atm u n k) k' S
    simp [Sy.inner] at i
    simp [Co.fn__law_parts, i, itV, compGo, Sy.parts, show biV S .sum [.lst []] = some (.int 0) from rfl]
  | nt s ih =>
    intro d S hd
    have hd : s.dep + 1 < d := hd
    obtain ⟨k', rfl⟩ : ∃ k, d = k + 1 + 1 := ⟨d - 2, by omega⟩
    rw [call_eq h rfl]
    have i := linner_ok (sg := sg) hi (.nt s) k' S
    have y := ih (d := k' + 1) S (by omega)
    simp [Sy.inner] at i
    simp [Co.fn__law_parts, i, y, itV, compGo, compF, wipeE, Pat.vars, lim, Sy.parts, show ∀ a : Int, biV S .sum [.lst [.int a]] = some (.int (a + 0)) from fun _ => rfl]
    omega
  | two o a b iha ihb =>
    intro d S hd
    have hd : max a.dep b.dep + 1 < d := hd
    obtain ⟨k', rfl⟩ : ∃ k, d = k + 1 + 1 := ⟨d - 2, by omega⟩
    rw [call_eq h rfl]
    have i := linner_ok (sg := sg) hi (.two o a b) k' S
    have y := iha (d := k' + 1) S (by omega)
    have z := ihb (d := k' + 1) S (by omega)
    simp [Sy.inner] at i
    simp [Co.fn__law_parts, i, y, z, itV, compGo, compF, wipeE, Pat.vars, lim, Sy.parts, show ∀ a b : Int, biV S .sum [.lst [.int a, .int b]] = some (.int (a + (b + 0))) from fun _ _ => rfl]
    omega
  | win o n f s ih =>
    intro d S hd
    have hd : s.dep + 1 < d := hd
    obtain ⟨k', rfl⟩ : ∃ k, d = k + 1 + 1 := ⟨d - 2, by omega⟩
    rw [call_eq h rfl]
    have i := linner_ok (sg := sg) hi (.win o n f s) k' S
    have y := ih (d := k' + 1) S (by omega)
    simp [Sy.inner] at i
    simp [Co.fn__law_parts, i, y, itV, compGo, compF, wipeE, Pat.vars, lim, Sy.parts, show ∀ a : Int, biV S .sum [.lst [.int a]] = some (.int (a + 0)) from fun _ => rfl]
    omega
  | unt n f a b iha ihb =>
    intro d S hd
    have hd : max a.dep b.dep + 1 < d := hd
    obtain ⟨k', rfl⟩ : ∃ k, d = k + 1 + 1 := ⟨d - 2, by omega⟩
    rw [call_eq h rfl]
    have i := linner_ok (sg := sg) hi (.unt n f a b) k' S
    have y := iha (d := k' + 1) S (by omega)
    have z := ihb (d := k' + 1) S (by omega)
    simp [Sy.inner] at i
    simp [Co.fn__law_parts, i, y, z, itV, compGo, compF, wipeE, Pat.vars, lim, Sy.parts, show ∀ a b : Int, biV S .sum [.lst [.int a, .int b]] = some (.int (a + (b + 0))) from fun _ _ => rfl]
    omega
theorem maxL1 (S : Store) (a : Int) : biV S .maxL [.lst [.int a]] = some (.int a) := rfl
theorem maxL2 (S : Store) {a : Int} (h : 1 ≤ a) : biV S .maxL [.lst [.int a, .int 0]] = some (.int a) := by
  show some (Val.int (if (0 : Int) > a then 0 else a)) = _
  rw [if_neg (by omega)]
theorem maxL3 (S : Store) {a b : Int} (h : 1 ≤ a) (h2 : 1 ≤ b) : biV S .maxL [.lst [.int a, .int b, .int 0]] = some (.int (max a b)) := by
  show some (Val.int (if (if (0 : Int) > b then 0 else b) > a then (if (0 : Int) > b then 0 else b) else a)) = _
  rw [if_neg (show ¬ ((0 : Int) > b) by omega)]
  congr 2
  split <;> omega
theorem deep_ok (hi : Φ "_law_inner" = some Co.fn__law_inner) (h : Φ "_law_deep" = some Co.fn__law_deep) : ∀ (s : Sy) {d : Nat} (S : Store), s.dep < d → callF sg Φ d "_law_deep" [s.v] S = .ok (.int s.dep) S := by
  intro s
  induction s with
  | atm u n k =>
    intro d S hd
    have hd : 1 < d := hd
    obtain ⟨k', rfl⟩ : ∃ k, d = k + 1 + 1 := ⟨d - 2, by omega⟩
    rw [call_eq h rfl]
    have i := linner_ok (sg := sg) hi (.atm u n k) k' S
    simp [Sy.inner] at i
    simp [Co.fn__law_deep, i, itV, compGo, Sy.dep, addL, maxL1]
  | nt s ih =>
    intro d S hd
    have hd : s.dep + 1 < d := hd
    obtain ⟨k', rfl⟩ : ∃ k, d = k + 1 + 1 := ⟨d - 2, by omega⟩
    rw [call_eq h rfl]
    have i := linner_ok (sg := sg) hi (.nt s) k' S
    have y := ih (d := k' + 1) S (by omega)
    have m := maxL2 S (a := s.dep) (by have := sy_dep0 s; omega)
    simp [Sy.inner] at i
    simp [Co.fn__law_deep, i, y, itV, compGo, compF, wipeE, Pat.vars, lim, Sy.dep, addL, m]
    omega
  | two o a b iha ihb =>
    intro d S hd
    have hd : max a.dep b.dep + 1 < d := hd
    obtain ⟨k', rfl⟩ : ∃ k, d = k + 1 + 1 := ⟨d - 2, by omega⟩
    rw [call_eq h rfl]
    have i := linner_ok (sg := sg) hi (.two o a b) k' S
    have y := iha (d := k' + 1) S (by omega)
    have z := ihb (d := k' + 1) S (by omega)
    have m := maxL3 S (a := a.dep) (b := b.dep) (by have := sy_dep0 a; omega) (by have := sy_dep0 b; omega)
    simp [Sy.inner] at i
    simp [Co.fn__law_deep, i, y, z, itV, compGo, compF, wipeE, Pat.vars, lim, Sy.dep, addL, m]
    omega
  | win o n f s ih =>
    intro d S hd
    have hd : s.dep + 1 < d := hd
    obtain ⟨k', rfl⟩ : ∃ k, d = k + 1 + 1 := ⟨d - 2, by omega⟩
    rw [call_eq h rfl]
    have i := linner_ok (sg := sg) hi (.win o n f s) k' S
    have y := ih (d := k' + 1) S (by omega)
    have m := maxL2 S (a := s.dep) (by have := sy_dep0 s; omega)
    simp [Sy.inner] at i
    simp [Co.fn__law_deep, i, y, itV, compGo, compF, wipeE, Pat.vars, lim, Sy.dep, addL, m]
    omega
  | unt n f a b iha ihb =>
    intro d S hd
    have hd : max a.dep b.dep + 1 < d := hd
    obtain ⟨k', rfl⟩ : ∃ k, d = k + 1 + 1 := ⟨d - 2, by omega⟩
    rw [call_eq h rfl]
    have i := linner_ok (sg := sg) hi (.unt n f a b) k' S
    have y := iha (d := k' + 1) S (by omega)
    have z := ihb (d := k' + 1) S (by omega)
    have m := maxL3 S (a := a.dep) (b := b.dep) (by have := sy_dep0 a; omega) (by have := sy_dep0 b; omega)
    simp [Sy.inner] at i
    simp [Co.fn__law_deep, i, y, z, itV, compGo, compF, wipeE, Pat.vars, lim, Sy.dep, addL, m]
    omega
theorem isnum_ok (h : Φ "_law_is_number" = some Co.fn__law_is_number) {k a b : Int} (h1 : a ≤ k) (h2 : k ≤ b) (d : Nat) (S : Store) : callF sg Φ (d + 1) "_law_is_number" [.int k, .int a, .int b] S = .ok (.bl true) S := by
  rw [call_eq h rfl]
  simp [Co.fn__law_is_number, isasV, isaV, h1, h2]
theorem take_all {p : Nat → Bool} : ∀ {l : List Nat}, (∀ c ∈ l, p c = true) → l.takeWhile p = l
  | [], _ => rfl
  | c :: r, h => by
    rw [List.takeWhile_cons, h c (List.mem_cons_self ..), take_all fun d hd => h d (List.mem_cons_of_mem _ hd)]
    rfl
theorem strip_nice {x : Str} (h : Nice x) : Txt.stripChars x "abcdefghijklmnopqrstuvwxyz" = "" := by
  have a : ∀ c ∈ x.cps.toList, ("abcdefghijklmnopqrstuvwxyz" : Str).cps.contains c = true := fun c hc => by
    have l := h.l c hc
    rw [← Array.contains_toList, ltr_list]
    simp
    omega
  unfold Txt.stripChars
  rw [W.stripBy_eq]
  unfold W.stripped
  have tw : x.cps.toList.takeWhile (("abcdefghijklmnopqrstuvwxyz" : Str).cps.contains) = x.cps.toList := by
    exact take_all a
  simp only [if_true, tw]
  have e : x.cps.toList.length = x.cps.size := Array.length_toList
  rw [List.drop_length, e]
  show (⟨x.cps.extract x.cps.size (x.length - 0)⟩ : Str) = _
  rw [show x.length - 0 = x.cps.size from rfl, show x.cps.extract x.cps.size x.cps.size = #[] by simp]
  decide +kernel
theorem isname_ok (h : Φ "_law_is_name" = some Co.fn__law_is_name) {x : Str} (n : Nice x) (d : Nat) (S : Store) : callF sg Φ (d + 1) "_law_is_name" [.str x] S = .ok (.bl true) S := by
  rw [call_eq h rfl]
  have i : cmpV .in_ (.str x) (.tup [.str "and", .str "or", .str "not", .str "until", .str "always", .str "sometime"]) = some false := by
    show some ([Val.str "and", .str "or", .str "not", .str "until", .str "always", .str "sometime"].any fun y => eqV y (.str x)) = _
    have e : ∀ w ∈ wordsS, (w == x) = false := fun w hw => beq_eq_false_iff_ne.mpr fun z => n.w (z ▸ hw)
    simp only [List.any_cons, List.any_nil, show ∀ w : Str, eqV (.str w) (.str x) = (w == x) from fun _ => rfl, e "and" (by decide), e "or" (by decide), e "not" (by decide), e "until" (by decide), e "always" (by decide), e "sometime" (by decide)]
    rfl
  have st : smV .strip x "abcdefghijklmnopqrstuvwxyz" = some (.str "") := by
    show (if okS (Txt.stripChars x "abcdefghijklmnopqrstuvwxyz") then some (Val.str (Txt.stripChars x "abcdefghijklmnopqrstuvwxyz")) else none) = _
    rw [strip_nice n, if_pos (by decide +kernel)]
  have l1 : (0 : Int) < (x.length : Int) := by have := n.a; omega
  have l2 : (x.length : Int) < 9 := by have := n.b; omega
  have l3 : x.length < 9 := by omega
  have l4 : 0 < x.length := by omega
  simp [Co.fn__law_is_name, isasV, isaV, i, st, l1, l2, l3, l4, eqS, show (("" : Str) == ("" : Str)) = true from beq_self_eq_true _]
end
end Pi

end
section
set_option linter.all false
set_option maxRecDepth 100000
/-! SyD: what is well made is told to be. -/
namespace Pi
open PySem
namespace Co
def sfC : IS := fn__law_is_form.body.getD 2 .pass
def sfD : IS := fn__law_is_form.body.getD 3 .pass
def sfA : IS := .ite (.or [(.not (.isa (.lv 0) [.tup])), (.cmp .eq (.lv 0) (.tup [])), (.not (.isa (.ix (.lv 0) (.cst (.int 0))) [.str]))]) [.ret (.cst (.bl false))] []
def sfB : IS := .ite (.cmp .in_ (.ix (.lv 0) (.cst (.int 0))) (.tup [(.cst (.str "least")), (.cst (.str "most"))])) [.ret (.and [(.cmp .eq (.bi .len [(.lv 0)]) (.cst (.int 3))), (.call "_law_is_name" [(.ix (.lv 0) (.cst (.int 1)))]), (.call "_law_is_number" [(.ix (.lv 0) (.cst (.int 2))), (.neg (.cst (.int 99))), (.cst (.int 99))])])] []
def sfE : IS := .ite (.or [(.cmp .eq (.lv 2) (.cst (.int 0))), (.cmp .ne (.bi .len [(.lv 0)]) (.bin .add (.lv 2) (.lv 3)))]) [.ret (.cst (.bl false))] []
def sfF : IS := .ite (.and [(.cmp .eq (.lv 2) (.cst (.int 3))), (.not (.and [(.call "_law_is_number" [(.ix (.lv 0) (.cst (.int 1))), (.cst (.int 0)), (.cst (.int 6))]), (.call "_law_is_number" [(.ix (.lv 0) (.cst (.int 2))), (.ix (.lv 0) (.cst (.int 1))), (.cst (.int 6))])]))]) [.ret (.cst (.bl false))] []
def sfG : IS := .ret (.bi .all [(.comp 0 [(.sl (.lv 0) [(.lv 2)] [])] (.v 4) [] (.call "_law_is_form" [(.lv 4)]))])
theorem sf_eq : fn__law_is_form.body = [sfA, sfB, sfC, sfD, sfE, sfF, sfG] := rfl
def szK : List Str := ["not", "both", "either", "always", "sometime", "until"]
def szD : List Val := [.tup [.int 1, .int 1], .tup [.int 1, .int 2], .tup [.int 1, .int 2], .tup [.int 3, .int 1], .tup [.int 3, .int 1], .tup [.int 3, .int 2]]
end Co
section
variable {sg : Sig} {Φ : Tab} {cf : String → List Val → Store → Res Val}
def Sy.front : Sy → Int
  | .atm _ _ _ => 1
  | .nt _ => 1
  | .two _ _ _ => 1
  | .win _ _ _ _ => 3
  | .unt _ _ _ _ => 3
def Sy.isAt : Sy → Bool
  | .atm _ _ _ => true
  | _ => false
theorem sf_a {s : Sy} (hs : s.dep ≤ 60) (S : Store) (a b c d : Option Val) : evS sg cf Co.sfA [some s.v, a, b, c, d] S = .nx [some s.v, a, b, c, d] S := by
  have e : cmpV .eq s.v (.tup []) = some false := by
    show (if datV s.v && datV (.tup []) then some (eqV s.v (.tup [])) else none) = _
    rw [sy_dat hs]
    cases s <;> rfl
  simp [Co.sfA, e, show isasV sg.eb (.str s.word) [.str] = some true from rfl]
theorem sf_b {s : Sy} (hs : s.isAt = false) (S : Store) (a b c d : Option Val) : evS sg cf Co.sfB [some s.v, a, b, c, d] S = .nx [some s.v, a, b, c, d] S := by
  have e : cmpV .in_ (.str s.word) (.tup [.str "least", .str "most"]) = some false := by
    cases s with
    | atm u n k => cases hs
    | _ => simp [Sy.word]
  simp [Co.sfB, e]
theorem sf_cd {s : Sy} (hs : s.isAt = false) (S : Store) : evSs sg cf [Co.sfC, Co.sfD] [some s.v, none, none, none, none] S = .nx [some s.v, some (.dct Co.szK Co.szD), some (.int s.front), some (.int s.inner.length), none] S := by
  cases s with
  | atm u n k => cases hs
  | nt s => kernel_rfl
  | two o a b => cases o <;> kernel_rfl
  | win o n f s => cases o <;> kernel_rfl
  | unt n f a b => kernel_rfl
theorem evSs_one {a : IS} {r : List IS} {ρ ρ' : Env} {S S' : Store} (h : evS sg cf a ρ S = .nx ρ' S') : evSs sg cf (a :: r) ρ S = evSs sg cf r ρ' S' := by
  simp only [evSs]
  rw [h]
  rfl
theorem evSs_two {a b : IS} {r : List IS} {ρ ρ' : Env} {S S' : Store} (h : evSs sg cf [a, b] ρ S = .nx ρ' S') : evSs sg cf (a :: b :: r) ρ S = evSs sg cf r ρ' S' := by
  simp only [evSs] at h
  cases e : evS sg cf a ρ S with
  | nx ρ1 S1 =>
    rw [e] at h
    cases e2 : evS sg cf b ρ1 S1 with
    | nx ρ2 S2 =>
      have h : (evS sg cf b ρ1 S1).then (fun ρ' S' => .nx ρ' S') = .nx ρ' S' := h
      rw [e2] at h
      cases h
      rw [evSs_one e, evSs_one e2]
    | _ =>
      have h : (evS sg cf b ρ1 S1).then (fun ρ' S' => .nx ρ' S') = .nx ρ' S' := h
      rw [e2] at h
      cases h
  | _ =>
    rw [e] at h
    cases h
theorem evSs_app {a : List IS} {r : List IS} : ∀ {ρ ρ' : Env} {S S' : Store}, evSs sg cf a ρ S = .nx ρ' S' → evSs sg cf (a ++ r) ρ S = evSs sg cf r ρ' S' := by
  induction a with
  | nil =>
    intro ρ ρ' S S' h
    simp only [evSs] at h
    cases h
    rfl
  | cons b a ih =>
    intro ρ ρ' S S' h
    simp only [evSs] at h
    cases e : evS sg cf b ρ S with
    | nx ρ1 S1 =>
      rw [e] at h
      rw [List.cons_append, evSs_one e]
      exact ih h
    | _ =>
      rw [e] at h
      cases h
theorem sf_call (h : Φ "_law_is_form" = some Co.fn__law_is_form) (v : Val) (d : Nat) (S : Store) :
    callF sg Φ (d + 1) "_law_is_form" [v] S = finO (evSs sg (callF sg Φ d) [Co.sfA, Co.sfB, Co.sfC, Co.sfD, Co.sfE, Co.sfF, Co.sfG] [some v, none, none, none, none] S) := by
  rw [call_eq h rfl, Co.sf_eq]
  rfl
theorem isform_ok (hn : Φ "_law_is_name" = some Co.fn__law_is_name) (hm : Φ "_law_is_number" = some Co.fn__law_is_number) (h : Φ "_law_is_form" = some Co.fn__law_is_form) :
    ∀ (s : Sy), s.Ok → s.dep ≤ 60 → ∀ {d : Nat} (S : Store), s.dep < d → callF sg Φ d "_law_is_form" [s.v] S = .ok (.bl true) S := by
  intro s
  induction s with
  | atm u n k =>
    intro ok _ d S hd
    have hd : 1 < d := hd
    obtain ⟨k', rfl⟩ : ∃ k, d = k + 1 + 1 := ⟨d - 2, by omega⟩
    rw [sf_call h]
    have a := isname_ok (sg := sg) hn ok.1 k' S
    have b := isnum_ok (sg := sg) hm ok.2.1 ok.2.2 k' S
    rw [evSs_one (sf_a (s := .atm u n k) (show 1 ≤ 60 by omega) S _ _ _ _)]
    simp [Co.sfB, Sy.v, Sy.word, at0, at1, at2, a, b, eqI]
  | nt s ih =>
    intro ok h6 d S hd
    have hd : s.dep + 1 < d := hd
    have h6 : s.dep + 1 ≤ 60 := h6
    obtain ⟨k', rfl⟩ : ∃ k, d = k + 1 + 1 := ⟨d - 2, by omega⟩
    rw [sf_call h]
    have y := ih ok (by omega) (d := k' + 1) S (by omega)
    rw [evSs_one (sf_a (s := .nt s) h6 S _ _ _ _), evSs_one (sf_b (s := .nt s) rfl S _ _ _ _)]
    refine (congrArg finO (evSs_two (sf_cd (s := .nt s) rfl S))).trans ?_
    simp [Co.sfE, Co.sfF, Co.sfG, Sy.v, Sy.front, Sy.inner, eqI, y, itV, compGo, compF, wipeE, Pat.vars, lim, cutL, sIx, show ∀ a b : Int, cmpV .ne (.int a) (.int b) = some (!(a == b)) from fun _ _ => rfl, show biV S .all [.lst [.bl true]] = some (.bl true) from rfl]
  | two o a b iha ihb =>
    intro ok h6 d S hd
    have hd : max a.dep b.dep + 1 < d := hd
    have h6 : max a.dep b.dep + 1 ≤ 60 := h6
    obtain ⟨k', rfl⟩ : ∃ k, d = k + 1 + 1 := ⟨d - 2, by omega⟩
    rw [sf_call h]
    have y := iha ok.1 (by omega) (d := k' + 1) S (by omega)
    have z := ihb ok.2 (by omega) (d := k' + 1) S (by omega)
    rw [evSs_one (sf_a (s := .two o a b) h6 S _ _ _ _), evSs_one (sf_b (s := .two o a b) rfl S _ _ _ _)]
    refine (congrArg finO (evSs_two (sf_cd (s := .two o a b) rfl S))).trans ?_
    simp [Co.sfE, Co.sfF, Co.sfG, Sy.v, Sy.front, Sy.inner, eqI, y, z, itV, compGo, compF, wipeE, Pat.vars, lim, cutL, sIx, show ∀ a b : Int, cmpV .ne (.int a) (.int b) = some (!(a == b)) from fun _ _ => rfl, show biV S .all [.lst [.bl true, .bl true]] = some (.bl true) from rfl]
  | win o n f s ih =>
    intro ok h6 d S hd
    have hd : s.dep + 1 < d := hd
    have h6 : s.dep + 1 ≤ 60 := h6
    obtain ⟨k', rfl⟩ : ∃ k, d = k + 1 + 1 := ⟨d - 2, by omega⟩
    rw [sf_call h]
    have y := ih ok.2.2 (by omega) (d := k' + 1) S (by omega)
    have w := ok.1
    have w2 := ok.2.1
    have q1 := isnum_ok (sg := sg) hm (k := n) (a := 0) (b := 6) (by omega) (by omega) k' S
    have q2 := isnum_ok (sg := sg) hm (k := f) (a := n) (b := 6) (by omega) (by omega) k' S
    rw [evSs_one (sf_a (s := .win o n f s) h6 S _ _ _ _), evSs_one (sf_b (s := .win o n f s) rfl S _ _ _ _)]
    refine (congrArg finO (evSs_two (sf_cd (s := .win o n f s) rfl S))).trans ?_
    simp [Co.sfE, Co.sfF, Co.sfG, Sy.v, Sy.front, Sy.inner, at1, at2, q1, q2, eqI, y, itV, compGo, compF, wipeE, Pat.vars, lim, cutL, sIx, show ∀ a b : Int, cmpV .ne (.int a) (.int b) = some (!(a == b)) from fun _ _ => rfl, show biV S .all [.lst [.bl true]] = some (.bl true) from rfl]
  | unt n f a b iha ihb =>
    intro ok h6 d S hd
    have hd : max a.dep b.dep + 1 < d := hd
    have h6 : max a.dep b.dep + 1 ≤ 60 := h6
    obtain ⟨k', rfl⟩ : ∃ k, d = k + 1 + 1 := ⟨d - 2, by omega⟩
    rw [sf_call h]
    have y := iha ok.2.2.1 (by omega) (d := k' + 1) S (by omega)
    have z := ihb ok.2.2.2 (by omega) (d := k' + 1) S (by omega)
    have w := ok.1
    have w2 := ok.2.1
    have q1 := isnum_ok (sg := sg) hm (k := n) (a := 0) (b := 6) (by omega) (by omega) k' S
    have q2 := isnum_ok (sg := sg) hm (k := f) (a := n) (b := 6) (by omega) (by omega) k' S
    rw [evSs_one (sf_a (s := .unt n f a b) h6 S _ _ _ _), evSs_one (sf_b (s := .unt n f a b) rfl S _ _ _ _)]
    refine (congrArg finO (evSs_two (sf_cd (s := .unt n f a b) rfl S))).trans ?_
    simp [Co.sfE, Co.sfF, Co.sfG, Sy.v, Sy.front, Sy.inner, at1, at2, q1, q2, eqI, y, z, itV, compGo, compF, wipeE, Pat.vars, lim, cutL, sIx, show ∀ a b : Int, cmpV .ne (.int a) (.int b) = some (!(a == b)) from fun _ _ => rfl, show biV S .all [.lst [.bl true, .bl true]] = some (.bl true) from rfl]
/-- the tab of a law on sayings -/
structure SayT (Φ : Tab) : Prop where
  inner : Φ "_law_inner" = some Co.fn__law_inner
  parts : Φ "_law_parts" = some Co.fn__law_parts
  deep : Φ "_law_deep" = some Co.fn__law_deep
  num : Φ "_law_is_number" = some Co.fn__law_is_number
  name : Φ "_law_is_name" = some Co.fn__law_is_name
  form : Φ "_law_is_form" = some Co.fn__law_is_form
  saying : Φ "_law_is_saying" = some Co.fn__law_is_saying
theorem issay_ok (t : SayT Φ) {s : Sy} (ok : s.Ok) (h6 : s.dep ≤ 60) {d : Nat} (S : Store) (hd : s.dep + 1 < d) : callF sg Φ d "_law_is_saying" [s.v] S = .ok (.bl (decide (s.parts < 10) && decide (s.dep < 6))) S := by
  obtain ⟨k', rfl⟩ : ∃ k, d = k + 1 := ⟨d - 1, by omega⟩
  rw [call_eq t.saying rfl]
  have a := isform_ok (sg := sg) t.name t.num t.form s ok h6 (d := k') S (by omega)
  have b := parts_ok (sg := sg) t.inner t.parts s (d := k') S (by omega)
  have c := deep_ok (sg := sg) t.inner t.deep s (d := k') S (by omega)
  have e1 : decide ((s.parts : Int) < 10) = decide (s.parts < 10) := by
    by_cases q : s.parts < 10
    · rw [decide_eq_true q, decide_eq_true (by omega)]
    · rw [decide_eq_false q, decide_eq_false (by omega)]
  have e2 : decide ((s.dep : Int) < 6) = decide (s.dep < 6) := by
    by_cases q : s.dep < 6
    · rw [decide_eq_true q, decide_eq_true (by omega)]
    · rw [decide_eq_false q, decide_eq_false (by omega)]
  by_cases q : s.parts < 10
  · have q' : (s.parts : Int) < 10 := by omega
    simp [Co.fn__law_is_saying, a, b, c, q, q', e2]
  · have q' : ¬ ((s.parts : Int) < 10) := by omega
    simp [Co.fn__law_is_saying, a, b, q, q']
end
end Pi

end
section
set_option linter.all false
set_option maxRecDepth 100000
/-! SyE: sayings that are drawn. -/
namespace Pi
open PySem
namespace Co
def anO (c : Int) : IE := (.bin .sub (.lv 3) (.bin .mul (.lv 7) (.bi .int [(.cmp .gt (.lv 5) (.cst (.int c)))])))
def anA : IS := .par [(5, false), (6, false), (7, false)] [(.call "_law_take" [(.lv 0), (.cst (.int 10))]), (.call "_law_take" [(.lv 0), (.bin .add (.bi .min2 [(.cst (.int 3)), (.lv 3)]) (.cst (.int 1)))]), (.call "_law_take" [(.lv 0), (.cst (.int 4))])]
def anW : IS := .asg (.v 7) (.bi .min3 [(.cst (.int 6)), (.lv 3), (.bin .add (.lv 6) (.lv 7))])
def anCc : IE := .or [(.cmp .eq (.lv 2) (.cst (.int 1))), (.cmp .eq (.lv 4) (.cst (.int 1))), (.cmp .eq (.lv 5) (.cst (.int 0)))]
def anCb : List IS := [.ret (.tup [(.ix (.lst [(.cst (.str "least")), (.cst (.str "most"))]) (.call "_law_take" [(.lv 0), (.cst (.int 2))])), (.call "_law_one_of" [(.lv 0), (.lv 1)]), (.bin .sub (.call "_law_take" [(.lv 0), (.cst (.int 17))]) (.cst (.int 8)))])]
def anC : IS := .ite anCc anCb []
def anDc : IE := .or [(.cmp .eq (.lv 2) (.cst (.int 2))), (.cmp .lt (.lv 5) (.cst (.int 5)))]
def anDb : List IS := [.asg (.v 8) (.call "_law_any" [(.lv 0), (.lv 1), (.bin .sub (.lv 2) (.cst (.int 1))), (anO 1), (.bin .sub (.lv 4) (.cst (.int 1)))]), .ret (.ite (.cmp .lt (.lv 5) (.cst (.int 2))) (.tup [(.cst (.str "not")), (.lv 8)]) (.tup [(.ix (.lst [(.cst (.str "always")), (.cst (.str "sometime"))]) (.bin .mod (.lv 5) (.cst (.int 2)))), (.lv 6), (.lv 7), (.lv 8)]))]
def anD : IS := .ite anDc anDb []
def anE : IS := .asg (.v 9) (.bin .add (.cst (.int 1)) (.call "_law_take" [(.lv 0), (.bin .sub (.lv 2) (.cst (.int 2)))]))
def anF : IS := .asg (.v 10) (.comp 0 [(.tup [(.lv 9), (.bin .sub (.bin .sub (.lv 2) (.cst (.int 1))) (.lv 9))])] (.v 11) [] (.call "_law_any" [(.lv 0), (.lv 1), (.lv 11), (anO 7), (.bin .sub (.lv 4) (.cst (.int 1)))]))
def anG : IS := .ite (.cmp .gt (.lv 5) (.cst (.int 7))) [.ret (.tup [(.cst (.str "until")), (.lv 6), (.lv 7), (.ix (.lv 10) (.cst (.int 0))), (.ix (.lv 10) (.cst (.int 1)))])] []
def anH : IS := .ret (.tup [(.ix (.lst [(.cst (.str "both")), (.cst (.str "either"))]) (.bin .mod (.lv 5) (.cst (.int 2)))), (.ix (.lv 10) (.cst (.int 0))), (.ix (.lv 10) (.cst (.int 1)))])
theorem an_eq : fn__law_any.body = [anA, anW, anC, anD, anE, anF, anG, anH] := rfl
end Co
section
variable {sg : Sig} {Φ : Tab} {cf : String → List Val → Store → Res Val}
theorem oneof_ok (ht : Φ "_law_take" = some Co.fn__law_take) (h : Φ "_law_one_of" = some Co.fn__law_one_of) {n m : Nat} {S : Store} {l : List Val} (b : Box S n m) (hm : m < 900000) (h0 : 0 < l.length) (hl : l.length < 1000000) (d : Nat) :
    ∃ (r : Nat) (x : Val) (S' : Store), callF sg Φ (d + 2) "_law_one_of" [.loc n, .lst l] S = .ok x S' ∧ l[r]? = some x ∧ Box S' n (m + 1) ∧ Same n S S' := by
  obtain ⟨r, S', c, hr, b', s'⟩ := draw (sg := sg) (d := d) ht b hm l.length h0 (by omega)
  refine ⟨r, l[r], S', ?_, List.getElem?_eq_getElem hr, b', s'⟩
  rw [call_eq h rfl]
  have e : atI l (r : Int) = some l[r] := by rw [atI_nat, List.getElem?_eq_getElem hr]
  simp [Co.fn__law_one_of, c, e]
theorem xeq_nat (a b : Nat) : ((a : Int) == (b : Int)) = decide (a = b) := by
  by_cases h : a = b
  · subst h
    simp
  · rw [decide_eq_false h]
    exact beq_eq_false_iff_ne.mpr (by omega)
/-- the draws at first -/
theorem an_a (ht : Φ "_law_take" = some Co.fn__law_take) {n m off : Nat} {S : Store} (b : Box S n m) (hm : m + 3 < 900000) (hoff : off ≤ 6) (d : Nat) (x p dp : Val) :
    ∃ (w nr wd : Nat) (S' : Store), (∀ r, evSs sg (callF sg Φ (d + 1)) (Co.anA :: Co.anW :: r) [some (.loc n), some x, some p, some (.int off), some dp, none, none, none, none, none, none, none] S =
      evSs sg (callF sg Φ (d + 1)) r [some (.loc n), some x, some p, some (.int off), some dp, some (.int w), some (.int nr), some (.int wd), none, none, none, none] S') ∧ w < 10 ∧ nr ≤ wd ∧ wd ≤ off ∧ Box S' n (m + 3) ∧ Same n S S' := by
  obtain ⟨w, S1, c1, hw, b1, s1⟩ := draw (sg := sg) (d := d) ht b (by omega) 10 (by omega) (by omega)
  obtain ⟨nr, S2, c2, hn, b2, s2⟩ := draw (sg := sg) (d := d) ht b1 (by omega) (min 3 off + 1) (by omega) (by omega)
  obtain ⟨r, S3, c3, hr, b3, s3⟩ := draw (sg := sg) (d := d) ht b2 (by omega) 4 (by omega) (by omega)
  refine ⟨w, nr, min off (nr + r), S3, fun l => ?_, hw, by omega, by omega, b3, (s1.trans s2).trans s3⟩
  have c1 : callF sg Φ (d + 1) "_law_take" [.loc n, .int 10] S = .ok (.int w) S1 := c1
  have c3 : callF sg Φ (d + 1) "_law_take" [.loc n, .int 4] S2 = .ok (.int r) S3 := c3
  have e1 : biV S1 .min2 [.int 3, .int off] = some (.int (min 3 off : Nat)) := by
    show some (Val.int (if (off : Int) < 3 then (off : Int) else 3)) = _
    congr 2
    split <;> omega
  have e2 : biV S3 .min3 [.int 6, .int off, .int ((nr : Int) + (r : Int))] = some (.int (min off (nr + r) : Nat)) := by
    show some (Val.int (if (nr : Int) + r < (if (off : Int) < 6 then (off : Int) else 6) then (nr : Int) + r else (if (off : Int) < 6 then (off : Int) else 6))) = _
    congr 2
    split <;> split at * <;> omega
  have h1 : evS sg (callF sg Φ (d + 1)) Co.anA [some (.loc n), some x, some p, some (.int off), some dp, none, none, none, none, none, none, none] S =
      .nx [some (.loc n), some x, some p, some (.int off), some dp, some (.int w), some (.int nr), some (.int r), none, none, none, none] S3 := by
    have c2 : callF sg Φ (d + 1) "_law_take" [.loc n, .int ((min 3 off : Nat) + 1)] S1 = .ok (.int nr) S2 := c2
    simp only [Co.anA, evS_q4, evEs_q0, evEs_q1, evE_q16, evE_q1, evE_q18, evE_q3, evE_q0, List.getElem?_cons_zero, List.getElem?_cons_succ, Res.bind_ok, c1, e1, Res.of_some, bv_addI, c2, c3]
    rfl
  have h2 : evS sg (callF sg Φ (d + 1)) Co.anW [some (.loc n), some x, some p, some (.int off), some dp, some (.int w), some (.int nr), some (.int r), none, none, none, none] S3 =
      .nx [some (.loc n), some x, some p, some (.int off), some dp, some (.int w), some (.int nr), some (.int (min off (nr + r) : Nat)), none, none, none, none] S3 := by
    simp only [Co.anW, evS_q1, evEs_q0, evEs_q1, evE_q1, evE_q18, evE_q3, evE_q0, List.getElem?_cons_zero, List.getElem?_cons_succ, Res.bind_ok, e2, Res.of_some, bv_addI]
    rfl
  rw [evSs_one h1, evSs_one h2]
theorem an_call (h : Φ "_law_any" = some Co.fn__law_any) (v w x y z : Val) (d : Nat) (S : Store) :
    callF sg Φ (d + 1) "_law_any" [v, w, x, y, z] S = finO (evSs sg (callF sg Φ d) [Co.anA, Co.anW, Co.anC, Co.anD, Co.anE, Co.anF, Co.anG, Co.anH] [some v, some w, some x, some y, some z, none, none, none, none, none, none, none] S) := by
  rw [call_eq h rfl, Co.an_eq]
  rfl
theorem an_o {p dp v0 v1 v6 v8 v9 v10 v11 : Option Val} {off w wd : Nat} (h : wd ≤ off) (ho : off ≤ 6) (c : Nat) (S : Store) :
    evE sg cf [v0, v1, p, some (.int off), dp, some (.int w), v6, some (.int wd), v8, v9, v10, v11] (Co.anO c) S = .ok (.int (off - (if c < w then wd else 0) : Nat)) S := by
  have e : binV .mul (.int wd) (.int (if (c : Int) < (w : Int) then 1 else 0)) = some (.int ((wd : Int) * (if (c : Int) < (w : Int) then 1 else 0))) := bv_mulI (by split <;> exact fit_r (by decide) (by decide))
  by_cases hc : c < w
  · have hc' : (c : Int) < (w : Int) := by omega
    rw [if_pos hc'] at e
    simp [Co.anO, hc, e]
    omega
  · have hc' : ¬ ((c : Int) < (w : Int)) := by omega
    rw [if_neg hc'] at e
    simp [Co.anO, hc, e]
theorem an_c {v0 v1 v3 v6 v7 v8 v9 v10 v11 : Option Val} (p dp w : Nat) (S : Store) :
    evT sg cf [v0, v1, some (.int p), v3, some (.int dp), some (.int w), v6, v7, v8, v9, v10, v11] Co.anCc S = .ok (decide (p = 1) || (decide (dp = 1) || decide (w = 0))) S := by
  have e1 : ((p : Int) == 1) = decide (p = 1) := xeq_nat p 1
  have e2 : ((dp : Int) == 1) = decide (dp = 1) := xeq_nat dp 1
  have e3 : ((w : Int) == 0) = decide (w = 0) := xeq_nat w 0
  by_cases h1 : p = 1 <;> by_cases h2 : dp = 1 <;> by_cases h3 : w = 0 <;> simp [Co.anCc, eqI, e1, e2, e3, h1, h2, h3]
theorem an_d {v0 v1 v3 v4 v6 v7 v8 v9 v10 v11 : Option Val} (p w : Nat) (S : Store) :
    evT sg cf [v0, v1, some (.int p), v3, v4, some (.int w), v6, v7, v8, v9, v10, v11] Co.anDc S = .ok (decide (p = 2) || decide (w < 5)) S := by
  have e1 : ((p : Int) == 2) = decide (p = 2) := xeq_nat p 2
  have e2 : decide ((w : Int) < 5) = decide (w < 5) := by
    by_cases h : w < 5
    · rw [decide_eq_true h, decide_eq_true (by omega)]
    · rw [decide_eq_false h, decide_eq_false (by omega)]
  by_cases h1 : p = 2 <;> by_cases h2 : w < 5 <;> simp [Co.anDc, eqI, e1, e2, h1, h2]
theorem pick2 {a b : Val} {r : Nat} (h : r < 2) : atI [a, b] (r : Int) = some (if r = 1 then b else a) := by
  rcases (by omega : r = 0 ∨ r = 1) with rfl | rfl
  · exact at0 a [b]
  · exact at1 a b []
theorem any_ok (ht : Φ "_law_take" = some Co.fn__law_take) (ho : Φ "_law_one_of" = some Co.fn__law_one_of) (h : Φ "_law_any" = some Co.fn__law_any) {n : Nat} {xs : List Str} (hx : ∀ x ∈ xs, Nice x) (h0 : 0 < xs.length) (hl : xs.length < 1000) :
    ∀ (dp p off m d : Nat) (S : Store), 1 ≤ p → off ≤ 6 → 1 ≤ dp → Box S n m → m + 6 * p < 900000 → dp + 2 ≤ d →
      ∃ (s : Sy) (S' : Store), callF sg Φ d "_law_any" [.loc n, .lst (xs.map .str), .int p, .int off, .int dp] S = .ok s.v S' ∧ s.Ok ∧ s.parts ≤ p ∧ s.dep ≤ dp ∧ Box S' n (m + 6 * p) ∧ Same n S S' := by
  intro dp
  induction dp with
  | zero => intro p off m d S _ _ h1; omega
  | succ dp ih =>
    intro p off m d S hp hoff _ b hm hd
    obtain ⟨d, rfl⟩ : ∃ k, d = k + 1 + 1 + 1 := ⟨d - 3, by omega⟩
    rw [an_call h]
    obtain ⟨w, nr, wd, S1, ha, hw, hnr, hwd, b1, s1⟩ := an_a (sg := sg) ht b (by omega) hoff (d + 1) (.lst (xs.map .str)) (.int p) (.int (dp + 1 : Nat))
    rw [ha]
    have ec := an_c (sg := sg) (cf := callF sg Φ (d + 1 + 1)) (v0 := some (.loc n)) (v1 := some (.lst (xs.map .str))) (v3 := some (.int off)) (v6 := some (.int nr)) (v7 := some (.int wd)) (v8 := none) (v9 := none) (v10 := none) (v11 := none) p (dp + 1) w S1
    by_cases hc : p = 1 ∨ dp + 1 = 1 ∨ w = 0
    · obtain ⟨r, S2, c2, hr, b2, s2⟩ := draw (sg := sg) (d := d + 1) ht b1 (by omega) 2 (by omega) (by omega)
      obtain ⟨q, y, S3, c3, hq, b3, s3⟩ := oneof_ok (sg := sg) ht ho (l := xs.map .str) b2 (by omega) (by simpa using h0) (by simp; omega) d
      obtain ⟨t, S4, c4, h4, b4, s4⟩ := draw (sg := sg) (d := d + 1) ht b3 (by omega) 17 (by omega) (by omega)
      rw [List.getElem?_map] at hq
      obtain ⟨x, hx1, rfl⟩ := Option.map_eq_some_iff.mp hq
      have c2 : callF sg Φ (d + 1 + 1) "_law_take" [.loc n, .int 2] S1 = .ok (.int r) S2 := c2
      have c4 : callF sg Φ (d + 1 + 1) "_law_take" [.loc n, .int 17] S3 = .ok (.int t) S4 := c4
      refine ⟨.atm (decide (r = 1)) x ((t : Int) - 8), S4, ?_, ⟨hx x (List.mem_of_getElem? hx1), by omega, by omega⟩, hp, by show 1 ≤ dp + 1; omega, b4.mono (by omega), ((s1.trans s2).trans s3).trans s4⟩
      have eb : evSs sg (callF sg Φ (d + 1 + 1)) Co.anCb [some (.loc n), some (.lst (xs.map .str)), some (.int p), some (.int off), some (.int (dp + 1 : Nat)), some (.int w), some (.int nr), some (.int wd), none, none, none, none] S1 = .rt (Sy.atm (decide (r = 1)) x ((t : Int) - 8)).v S4 := by
        have e4 := pick2 (a := .str "least") (b := .str "most") hr
        have e5 : (if r = 1 then Val.str "most" else .str "least") = .str (wA (decide (r = 1))) := by
          by_cases z : r = 1 <;> simp [z, wA]
        rw [e5] at e4
        simp [Co.anCb, c2, c3, c4, e4, Sy.v]
      have et : (decide (p = 1) || (decide (dp + 1 = 1) || decide (w = 0))) = true := by simpa using hc
      rw [et] at ec
      simp only [Co.anC, evSs, evS_q13, ec, Res.on_ok, if_true, eb, Out.then_rt]
      rfl
    · have et : (decide (p = 1) || (decide (dp + 1 = 1) || decide (w = 0))) = false := by simpa using hc
      rw [et] at ec
      have hC : ∀ l, evSs sg (callF sg Φ (d + 1 + 1)) (Co.anC :: l) [some (.loc n), some (.lst (xs.map .str)), some (.int p), some (.int off), some (.int (dp + 1 : Nat)), some (.int w), some (.int nr), some (.int wd), none, none, none, none] S1 =
          evSs sg (callF sg Φ (d + 1 + 1)) l [some (.loc n), some (.lst (xs.map .str)), some (.int p), some (.int off), some (.int (dp + 1 : Nat)), some (.int w), some (.int nr), some (.int wd), none, none, none, none] S1 := fun l => by
        refine evSs_one ?_
        simp only [Co.anC, evSs, evS_q13, ec, Res.on_ok, Bool.false_eq_true, if_false]
      rw [hC]
      have ed := an_d (sg := sg) (cf := callF sg Φ (d + 1 + 1)) (v0 := some (.loc n)) (v1 := some (.lst (xs.map .str))) (v3 := some (.int off)) (v4 := some (.int (dp + 1 : Nat))) (v6 := some (.int nr)) (v7 := some (.int wd)) (v8 := none) (v9 := none) (v10 := none) (v11 := none) p w S1
      have p1 : (p : Int) - 1 = ((p - 1 : Nat) : Int) := by omega
      have p2 : ((dp + 1 : Nat) : Int) - 1 = (dp : Int) := by omega
      have m2 : binV .mod (.int w) (.int 2) = some (.int (w % 2 : Nat)) := by rw [bv_mod (by omega)]; rfl
      by_cases hD : p = 2 ∨ w < 5
      · have et : (decide (p = 2) || decide (w < 5)) = true := by simpa using hD
        rw [et] at ed
        obtain ⟨s, S2, cs, ok, hs, hdp, b2, s2⟩ := ih (p - 1) (off - (if 1 < w then wd else 0)) (m + 3) (d + 1 + 1) S1 (by omega) (by omega) (by omega) b1 (by omega) (by omega)
        have eo : evE sg (callF sg Φ (d + 1 + 1)) [some (.loc n), some (.lst (xs.map .str)), some (.int p), some (.int off), some (.int (dp + 1 : Nat)), some (.int w), some (.int nr), some (.int wd), none, none, none, none] (Co.anO 1) S1 = .ok (.int (off - (if 1 < w then wd else 0) : Nat)) S1 := an_o hwd hoff 1 S1
        by_cases hw2 : w < 2
        · refine ⟨.nt s, S2, ?_, ok, by show s.parts + 1 ≤ p; omega, by show s.dep + 1 ≤ dp + 1; omega, b2.mono (by omega), s1.trans s2⟩
          have e2 : decide ((w : Int) < 2) = true := decide_eq_true (by omega)
          have eb : evSs sg (callF sg Φ (d + 1 + 1)) Co.anDb [some (.loc n), some (.lst (xs.map .str)), some (.int p), some (.int off), some (.int (dp + 1 : Nat)), some (.int w), some (.int nr), some (.int wd), none, none, none, none] S1 = .rt (Sy.nt s).v S2 := by
            simp only [Co.anDb, evSs, evS_q1, evS_q11, evE_q11, evEs_q0, evEs_q1, evE_q16, evE_q1, evE_q3, evE_q0, List.getElem?_cons_zero, List.getElem?_cons_succ, Res.bind_ok, Res.on_ok, Out.then_nx, bv_subI, Res.of_some, p1, p2, cs, eo, bindP, setE, List.set_cons_zero, List.set_cons_succ]
            simp only [evE_q5, evE_q10, evE_q11, evE_q0, evE_q1, evEs_q0, evEs_q1, List.getElem?_cons_zero, List.getElem?_cons_succ, Res.bind_ok, lt_int, e2, tru_bl, Option.map_some, Res.of_some, Sy.v, Res.on_ok, Out.then_rt]
          simp only [Co.anD, evSs, evS_q13, ed, Res.on_ok, if_true, eb, Out.then_rt]
          rfl
        · refine ⟨.win (decide (w % 2 = 1)) nr wd s, S2, ?_, ⟨hnr, by omega, ok⟩, by show s.parts + 1 ≤ p; omega, by show s.dep + 1 ≤ dp + 1; omega, b2.mono (by omega), s1.trans s2⟩
          have e4 := pick2 (a := .str "always") (b := .str "sometime") (show w % 2 < 2 by omega)
          have e5 : (if w % 2 = 1 then Val.str "sometime" else .str "always") = .str (wW (decide (w % 2 = 1))) := by
            by_cases z : w % 2 = 1 <;> simp [z, wW]
          rw [e5] at e4
          have e2 : decide ((w : Int) < 2) = false := decide_eq_false (by omega)
          have eb : evSs sg (callF sg Φ (d + 1 + 1)) Co.anDb [some (.loc n), some (.lst (xs.map .str)), some (.int p), some (.int off), some (.int (dp + 1 : Nat)), some (.int w), some (.int nr), some (.int wd), none, none, none, none] S1 = .rt (Sy.win (decide (w % 2 = 1)) nr wd s).v S2 := by
            simp only [Co.anDb, evSs, evS_q1, evS_q11, evE_q11, evEs_q0, evEs_q1, evE_q16, evE_q1, evE_q3, evE_q0, List.getElem?_cons_zero, List.getElem?_cons_succ, Res.bind_ok, Res.on_ok, Out.then_nx, bv_subI, Res.of_some, p1, p2, cs, eo, bindP, setE, List.set_cons_zero, List.set_cons_succ]
            simp only [evE_q5, evE_q10, evE_q11, evE_q12, evE_q14, evE_q0, evE_q1, evE_q3, evEs_q0, evEs_q1, List.getElem?_cons_zero, List.getElem?_cons_succ, Res.bind_ok, lt_int, e2, tru_bl, m2, ix_l, e4, Option.map_some, Res.of_some, Sy.v, Res.on_ok, Out.then_rt]
          simp only [Co.anD, evSs, evS_q13, ed, Res.on_ok, if_true, eb, Out.then_rt]
          rfl
      · have et : (decide (p = 2) || decide (w < 5)) = false := by simpa using hD
        rw [et] at ed
        have hDn : ∀ l, evSs sg (callF sg Φ (d + 1 + 1)) (Co.anD :: l) [some (.loc n), some (.lst (xs.map .str)), some (.int p), some (.int off), some (.int (dp + 1 : Nat)), some (.int w), some (.int nr), some (.int wd), none, none, none, none] S1 =
            evSs sg (callF sg Φ (d + 1 + 1)) l [some (.loc n), some (.lst (xs.map .str)), some (.int p), some (.int off), some (.int (dp + 1 : Nat)), some (.int w), some (.int nr), some (.int wd), none, none, none, none] S1 := fun l => by
          refine evSs_one ?_
          simp only [Co.anD, evSs, evS_q13, ed, Res.on_ok, Bool.false_eq_true, if_false]
        rw [hDn]
        obtain ⟨r, S2, c2, hr, b2, s2⟩ := draw (sg := sg) (d := d + 1) ht b1 (by omega) (p - 2) (by omega) (by omega)
        obtain ⟨x, S3, cx, okx, hsx, hdx, b3, s3⟩ := ih (1 + r) (off - (if 7 < w then wd else 0)) (m + 3 + 1) (d + 1 + 1) S2 (by omega) (by omega) (by omega) b2 (by omega) (by omega)
        obtain ⟨y, S4, cy, oky, hsy, hdy, b4, s4⟩ := ih (p - 2 - r) (off - (if 7 < w then wd else 0)) (m + 3 + 1 + 6 * (1 + r)) (d + 1 + 1) S3 (by omega) (by omega) (by omega) b3 (by omega) (by omega)
        have p3 : (p : Int) - 2 = ((p - 2 : Nat) : Int) := by omega
        have p4 : (1 : Int) + (r : Int) = ((1 + r : Nat) : Int) := by omega
        have p5 : (p : Int) - 1 - ((1 + r : Nat) : Int) = ((p - 2 - r : Nat) : Int) := by omega
        have eE : evS sg (callF sg Φ (d + 1 + 1)) Co.anE [some (.loc n), some (.lst (xs.map .str)), some (.int p), some (.int off), some (.int (dp + 1 : Nat)), some (.int w), some (.int nr), some (.int wd), none, none, none, none] S1 =
            .nx [some (.loc n), some (.lst (xs.map .str)), some (.int p), some (.int off), some (.int (dp + 1 : Nat)), some (.int w), some (.int nr), some (.int wd), none, some (.int (1 + r : Nat)), none, none] S2 := by
          simp only [Co.anE, evS_q1, evEs_q0, evEs_q1, evE_q16, evE_q1, evE_q3, evE_q0, List.getElem?_cons_zero, List.getElem?_cons_succ, Res.bind_ok, Res.on_ok, bv_subI, bv_addI, Res.of_some, p3, p4, c2, bindP, setE, List.set_cons_zero, List.set_cons_succ]
        have go : compGo (compF sg (callF sg Φ (d + 1 + 1)) (.v 11) [] (.call "_law_any" [(.lv 0), (.lv 1), (.lv 11), (Co.anO 7), (.bin .sub (.lv 4) (.cst (.int 1)))]) [some (.loc n), some (.lst (xs.map .str)), some (.int p), some (.int off), some (.int (dp + 1 : Nat)), some (.int w), some (.int nr), some (.int wd), none, some (.int (1 + r : Nat)), none, none])
            [.int (1 + r : Nat), .int (p - 2 - r : Nat)] S2 = .ok [x.v, y.v] S4 := by
          have e1 : ∀ z S, evE sg (callF sg Φ (d + 1 + 1)) [some (.loc n), some (.lst (xs.map .str)), some (.int p), some (.int off), some (.int (dp + 1 : Nat)), some (.int w), some (.int nr), some (.int wd), none, some (.int (1 + r : Nat)), none, some z] (Co.anO 7) S =
              .ok (.int (off - (if 7 < w then wd else 0) : Nat)) S := fun z S => an_o hwd hoff 7 S
          simp only [compGo, compF, wipeE, Pat.vars, bindP, setE, List.set_cons_zero, List.set_cons_succ, evTs_q0, evEs_q0, evEs_q1, evE_q16, evE_q1, evE_q3, evE_q0, List.getElem?_cons_zero, List.getElem?_cons_succ, Res.bind_ok, if_true, bv_subI, Res.of_some, p2, e1, cx, cy, List.cons_append, List.nil_append]
        have eF : evS sg (callF sg Φ (d + 1 + 1)) Co.anF [some (.loc n), some (.lst (xs.map .str)), some (.int p), some (.int off), some (.int (dp + 1 : Nat)), some (.int w), some (.int nr), some (.int wd), none, some (.int (1 + r : Nat)), none, none] S2 =
            .nx [some (.loc n), some (.lst (xs.map .str)), some (.int p), some (.int off), some (.int (dp + 1 : Nat)), some (.int w), some (.int nr), some (.int wd), none, some (.int (1 + r : Nat)), some (.lst [x.v, y.v]), none] S4 := by
          have il : [x.v, y.v].length ≤ lim := show 2 ≤ lim by decide
          simp only [Co.anF, evS_q1, evE_cmp, evEs_q0, evEs_q1, evE_q11, evE_q1, evE_q3, evE_q0, List.getElem?_cons_zero, List.getElem?_cons_succ, Res.bind_ok, Res.on_ok, bv_subI, Res.of_some, p5, itV, go, if_pos il, bindP, setE, List.set_cons_zero, List.set_cons_succ]
        rw [evSs_one eE, evSs_one eF]
        by_cases hw7 : 7 < w
        · refine ⟨.unt nr wd x y, S4, ?_, ⟨hnr, by omega, okx, oky⟩, by show x.parts + y.parts + 1 ≤ p; omega, by show max x.dep y.dep + 1 ≤ dp + 1; omega, b4.mono (by omega), ((s1.trans s2).trans s3).trans s4⟩
          have e2 : decide ((7 : Int) < (w : Int)) = true := decide_eq_true (by omega)
          simp [Co.anG, e2, at0, at1, Sy.v]
        · refine ⟨.two (decide (w % 2 = 1)) x y, S4, ?_, ⟨okx, oky⟩, by show x.parts + y.parts + 1 ≤ p; omega, by show max x.dep y.dep + 1 ≤ dp + 1; omega, b4.mono (by omega), ((s1.trans s2).trans s3).trans s4⟩
          have e2 : ¬ ((7 : Int) < (w : Int)) := by omega
          have e4 := pick2 (a := .str "both") (b := .str "either") (show w % 2 < 2 by omega)
          have e5 : (if w % 2 = 1 then Val.str "either" else .str "both") = .str (wP (decide (w % 2 = 1))) := by
            by_cases z : w % 2 = 1 <;> simp [z, wP]
          rw [e5] at e4
          have m2' : binV .mod (.int w) (.int 2) = some (.int (w % 2 : Int)) := by rw [bv_mod (by omega)]
          have e4' : atI [Val.str "both", .str "either"] ((w : Int) % 2) = some (.str (wP (decide (w % 2 = 1)))) := e4
          simp [Co.anG, Co.anH, e2, at0, at1, Sy.v, m2', e4']
end
end Pi

end
section
set_option linter.all false
set_option maxRecDepth 100000
/-! SyF: great and wide ones. -/
namespace Pi
open PySem
namespace Co
def wdA : IS := .ite (.cmp .in_ (.ix (.lv 1) (.cst (.int 0))) (.tup [(.cst (.str "least")), (.cst (.str "most"))])) [.ret (.bin .add (.sl (.lv 1) [] [(.cst (.int 2))]) (.tup [(.ix (.lst [(.cst (.int 99)), (.neg (.cst (.int 99))), (.cst (.int 0)), (.bin .sub (.call "_law_take" [(.lv 0), (.cst (.int 199))]) (.cst (.int 99)))]) (.call "_law_take" [(.lv 0), (.cst (.int 4))]))]))] []
def wdB : IS := .asg (.v 2) (.comp 0 [(.call "_law_inner" [(.lv 1)])] (.v 3) [] (.call "_law_wide" [(.lv 0), (.lv 3)]))
def wdC : IS := .ite (.cmp .in_ (.ix (.lv 1) (.cst (.int 0))) (.tup [(.cst (.str "always")), (.cst (.str "sometime")), (.cst (.str "until"))])) [.asg (.v 4) (.call "_law_take" [(.lv 0), (.cst (.int 7))]), .ret (.bin .add (.tup [(.ix (.lv 1) (.cst (.int 0))), (.lv 4), (.bin .add (.lv 4) (.call "_law_take" [(.lv 0), (.bin .sub (.cst (.int 7)) (.lv 4))]))]) (.bi .tuple [(.lv 2)]))] []
def wdD : IS := .ret (.bin .add (.sl (.lv 1) [] [(.cst (.int 1))]) (.bi .tuple [(.lv 2)]))
theorem wd_eq : fn__law_wide.body = [wdA, wdB, wdC, wdD] := rfl
end Co
section
variable {sg : Sig} {Φ : Tab} {cf : String → List Val → Store → Res Val}
theorem wd_call (h : Φ "_law_wide" = some Co.fn__law_wide) (v w : Val) (d : Nat) (S : Store) :
    callF sg Φ (d + 1) "_law_wide" [v, w] S = finO (evSs sg (callF sg Φ d) [Co.wdA, Co.wdB, Co.wdC, Co.wdD] [some v, some w, none, none, none] S) := by
  rw [call_eq h rfl, Co.wd_eq]
  rfl
theorem wd_a {s : Sy} (hs : s.isAt = false) (S : Store) (a b c d : Option Val) : evS sg cf Co.wdA [a, some s.v, b, c, d] S = .nx [a, some s.v, b, c, d] S := by
  have e : cmpV .in_ (.str s.word) (.tup [.str "least", .str "most"]) = some false := by
    cases s with
    | atm u n k => cases hs
    | _ => simp [Sy.word]
  simp [Co.wdA, e]
theorem wd_b (hi : Φ "_law_inner" = some Co.fn__law_inner) {s : Sy} {v : Val} {d : Nat} {S S' : Store} {l : List Val} (hl : l.length ≤ 64)
    (go : compGo (compF sg (callF sg Φ (d + 1)) (.v 3) [] (.call "_law_wide" [(.lv 0), (.lv 3)]) [some v, some s.v, none, none, none]) (s.inner.map Sy.v) S = .ok l S') :
    evS sg (callF sg Φ (d + 1)) Co.wdB [some v, some s.v, none, none, none] S = .nx [some v, some s.v, some (.lst l), none, none] S' := by
  have i := linner_ok (sg := sg) hi s d S
  simp only [Co.wdB, evS_q1, evE_cmp, evEs_q0, evEs_q1, evE_q16, evE_q0, List.getElem?_cons_zero, List.getElem?_cons_succ, Res.bind_ok, Res.on_ok, Res.of_some, i, itV, go, if_pos (Nat.le_trans hl limk), bindP, setE, List.set_cons_zero, List.set_cons_succ]
/-- a window is drawn anew -/
theorem wd_c (ht : Φ "_law_take" = some Co.fn__law_take) {s : Sy} (hw : cmpV .in_ (.str s.word) (.tup [.str "always", .str "sometime", .str "until"]) = some true) {n m d : Nat} {S : Store} (b : Box S n m) (hm : m + 2 < 900000) (l : List Val) (hl : l.length ≤ 8) :
    ∃ (nr f : Nat) (S' : Store), evS sg (callF sg Φ (d + 1)) Co.wdC [some (.loc n), some s.v, some (.lst l), none, none] S = .rt (.tup ([.str s.word, .int nr, .int f] ++ l)) S' ∧ nr ≤ f ∧ f ≤ 6 ∧ Box S' n (m + 2) ∧ Same n S S' := by
  obtain ⟨r, S1, c1, hr, b1, s1⟩ := draw (sg := sg) (d := d) ht b (by omega) 7 (by omega) (by omega)
  obtain ⟨t, S2, c2, h2, b2, s2⟩ := draw (sg := sg) (d := d) ht b1 (by omega) (7 - r) (by omega) (by omega)
  have c1 : callF sg Φ (d + 1) "_law_take" [.loc n, .int 7] S = .ok (.int r) S1 := c1
  have e1 : (7 : Int) - (r : Int) = ((7 - r : Nat) : Int) := by omega
  have e2 : (r : Int) + (t : Int) = ((r + t : Nat) : Int) := by omega
  refine ⟨r, r + t, S2, ?_, by omega, by omega, b2, s1.trans s2⟩
  have ad : binV .add (.tup [.str s.word, .int r, .int (r + t : Nat)]) (.tup l) = some (.tup ([.str s.word, .int r, .int (r + t : Nat)] ++ l)) := addT (by simp; omega)
  simp only [Co.wdC, evSs, evS_q13, evS_q1, evS_q11, evT_q, evE_q5, evE_q14, evE_q11, evE_q18, evEs_q0, evEs_q1, evE_q16, evE_q1, evE_q3, evE_q0, List.getElem?_cons_zero, List.getElem?_cons_succ, Res.bind_ok, Res.on_ok, Out.then_nx, bv_subI, bv_addI, Res.of_some, sy_ix0, hw, if_true, c1, e1, c2, e2, ad, bi_tupL, bindP, setE, List.set_cons_zero, List.set_cons_succ, Out.then_rt, Option.map_some, tru_bl]
theorem wd_d {s : Sy} (hw : cmpV .in_ (.str s.word) (.tup [.str "always", .str "sometime", .str "until"]) = some false) (v : Option Val) (l : List Val) (hl : l.length ≤ 8) (S : Store) :
    evSs sg cf [Co.wdC, Co.wdD] [v, some s.v, some (.lst l), none, none] S = .rt (.tup ([.str s.word] ++ l)) S := by
  have e : slV S s.v none (some 1) = some (.tup [.str s.word]) := by cases s <;> rfl
  have ad : binV .add (.tup [.str s.word]) (.tup l) = some (.tup ([.str s.word] ++ l)) := addT (by simp; omega)
  simp only [Co.wdC, Co.wdD, evSs, evS_q13, evS_q11, evT_q, evE_q5, evE_q14, evE_q15, evE_q11, evE_q18, evEs_q0, evEs_q1, evO_q0, evO_q1, evE_q1, evE_q3, evE_q0, List.getElem?_cons_zero, List.getElem?_cons_succ, Res.bind_ok, Res.on_ok, Out.then_nx, Res.of_some, sy_ix0, hw, Bool.false_eq_true, if_false, ad, e, bi_tupL, Out.then_rt, Option.map_some, tru_bl]
theorem nums4 {r t : Nat} (hr : r < 199) (h : t < 4) : ∃ k : Int, atI [Val.int 99, .int (-99), .int 0, .int ((r : Int) - 99)] (t : Int) = some (.int k) ∧ -99 ≤ k ∧ k ≤ 99 := by
  rw [atI_nat]
  rcases (by omega : t = 0 ∨ t = 1 ∨ t = 2 ∨ t = 3) with rfl | rfl | rfl | rfl
  · exact ⟨99, rfl, by omega, by omega⟩
  · exact ⟨-99, rfl, by omega, by omega⟩
  · exact ⟨0, rfl, by omega, by omega⟩
  · exact ⟨(r : Int) - 99, rfl, by omega, by omega⟩
theorem wide_ok (ht : Φ "_law_take" = some Co.fn__law_take) (hi : Φ "_law_inner" = some Co.fn__law_inner) (h : Φ "_law_wide" = some Co.fn__law_wide) {n : Nat} :
    ∀ (s : Sy), s.Ok → ∀ (m d : Nat) (S : Store), Box S n m → m + 2 * s.parts < 900000 → s.dep + 1 ≤ d →
      ∃ (s' : Sy) (S' : Store), callF sg Φ d "_law_wide" [.loc n, s.v] S = .ok s'.v S' ∧ s'.Ok ∧ s'.parts = s.parts ∧ s'.dep = s.dep ∧ Box S' n (m + 2 * s.parts) ∧ Same n S S' := by
  intro s
  induction s with
  | atm u x k =>
    intro ok m d S b hm hd
    have hm : m + 2 * 1 < 900000 := hm
    have hd : 1 + 1 ≤ d := hd
    obtain ⟨d, rfl⟩ : ∃ k, d = k + 1 + 1 := ⟨d - 2, by omega⟩
    obtain ⟨r, S1, c1, hr, b1, s1⟩ := draw (sg := sg) (d := d) ht b (by omega) 199 (by omega) (by omega)
    obtain ⟨t, S2, c2, h2, b2, s2⟩ := draw (sg := sg) (d := d) ht b1 (by omega) 4 (by omega) (by omega)
    have c1 : callF sg Φ (d + 1) "_law_take" [.loc n, .int 199] S = .ok (.int r) S1 := c1
    have c2 : callF sg Φ (d + 1) "_law_take" [.loc n, .int 4] S1 = .ok (.int t) S2 := c2
    obtain ⟨k', e, k1, k2⟩ := nums4 hr h2
    refine ⟨.atm u x k', S2, ?_, ⟨ok.1, k1, k2⟩, rfl, rfl, b2, s1.trans s2⟩
    rw [wd_call h]
    have el : slV S (Sy.atm u x k).v none (some 2) = some (.tup [.str (wA u), .str x]) := rfl
    have ad : binV .add (.tup [.str (wA u), .str x]) (.tup [.int k']) = some (Sy.atm u x k').v := addT (by simp)
    have w : cmpV .in_ (.str (Sy.atm u x k).word) (.tup [.str "least", .str "most"]) = some true := in_aA u
    simp only [Co.wdA, evSs, evS_q13, evS_q11, evT_q, evE_q4, evE_q5, evE_q12, evE_q14, evE_q15, evE_q11, evE_q16, evEs_q0, evEs_q1, evO_q0, evO_q1, evE_q1, evE_q3, evE_q0, List.getElem?_cons_zero, List.getElem?_cons_succ, Res.bind_ok, Res.on_ok, Out.then_nx, Res.of_some, sy_ix0, w, if_true, ad, el, c1, c2, bv_subI, ix_l, e, Out.then_rt, Option.map_some, tru_bl]
    rfl
  | nt s ih =>
    intro ok m d S b hm hd
    have hm : m + 2 * (s.parts + 1) < 900000 := hm
    have hd : s.dep + 1 + 1 ≤ d := hd
    obtain ⟨d, rfl⟩ : ∃ k, d = k + 1 + 1 := ⟨d - 2, by omega⟩
    obtain ⟨s', S1, c1, ok1, p1, d1, b1, s1⟩ := ih ok m (d + 1) S b (by omega) (by omega)
    refine ⟨.nt s', S1, ?_, ok1, by show s'.parts + 1 = s.parts + 1; omega, by show s'.dep + 1 = s.dep + 1; omega, b1.mono (by show _ ≤ m + 2 * (s.parts + 1); omega), s1⟩
    rw [wd_call h, evSs_one (wd_a (s := .nt s) rfl S _ _ _ _)]
    rw [evSs_one (wd_b hi (s := .nt s) (l := [s'.v]) (S' := S1) (by simp) (by simp [compGo, compF, wipeE, Pat.vars, Sy.inner, c1])), wd_d (s := .nt s) in_tN _ _ (by simp)]
    rfl
  | two o x y ihx ihy =>
    intro ok m d S b hm hd
    have hm : m + 2 * (x.parts + y.parts + 1) < 900000 := hm
    have hd : max x.dep y.dep + 1 + 1 ≤ d := hd
    obtain ⟨d, rfl⟩ : ∃ k, d = k + 1 + 1 := ⟨d - 2, by omega⟩
    obtain ⟨x', S1, c1, ok1, p1, d1, b1, s1⟩ := ihx ok.1 m (d + 1) S b (by omega) (by omega)
    obtain ⟨y', S2, c2, ok2, p2, d2, b2, s2⟩ := ihy ok.2 _ (d + 1) S1 b1 (by omega) (by omega)
    refine ⟨.two o x' y', S2, ?_, ⟨ok1, ok2⟩, by show x'.parts + y'.parts + 1 = x.parts + y.parts + 1; omega, by show max x'.dep y'.dep + 1 = max x.dep y.dep + 1; omega, b2.mono (by show _ ≤ m + 2 * (x.parts + y.parts + 1); omega), s1.trans s2⟩
    rw [wd_call h, evSs_one (wd_a (s := .two o x y) rfl S _ _ _ _)]
    rw [evSs_one (wd_b hi (s := .two o x y) (l := [x'.v, y'.v]) (S' := S2) (by simp) (by simp [compGo, compF, wipeE, Pat.vars, Sy.inner, c1, c2])), wd_d (s := .two o x y) (in_tP o) _ _ (by simp)]
    rfl
  | win o p q s ih =>
    intro ok m d S b hm hd
    have hm : m + 2 * (s.parts + 1) < 900000 := hm
    have hd : s.dep + 1 + 1 ≤ d := hd
    obtain ⟨d, rfl⟩ : ∃ k, d = k + 1 + 1 := ⟨d - 2, by omega⟩
    obtain ⟨s', S1, c1, ok1, p1, d1, b1, s1⟩ := ih ok.2.2 m (d + 1) S b (by omega) (by omega)
    obtain ⟨nr, f, S2, c2, h1, h2, b2, s2⟩ := wd_c (sg := sg) (d := d) ht (s := .win o p q s) (in_tW o) b1 (by omega) [s'.v] (by simp)
    refine ⟨.win o nr f s', S2, ?_, ⟨h1, h2, ok1⟩, by show s'.parts + 1 = s.parts + 1; omega, by show s'.dep + 1 = s.dep + 1; omega, b2.mono (by show _ ≤ m + 2 * (s.parts + 1); omega), s1.trans s2⟩
    rw [wd_call h, evSs_one (wd_a (s := .win o p q s) rfl S _ _ _ _)]
    rw [evSs_one (wd_b hi (s := .win o p q s) (l := [s'.v]) (S' := S1) (by simp) (by simp [compGo, compF, wipeE, Pat.vars, Sy.inner, c1]))]
    simp only [evSs, c2]
    rfl
  | unt p q x y ihx ihy =>
    intro ok m d S b hm hd
    have hm : m + 2 * (x.parts + y.parts + 1) < 900000 := hm
    have hd : max x.dep y.dep + 1 + 1 ≤ d := hd
    obtain ⟨d, rfl⟩ : ∃ k, d = k + 1 + 1 := ⟨d - 2, by omega⟩
    obtain ⟨x', S1, c1, ok1, p1, d1, b1, s1⟩ := ihx ok.2.2.1 m (d + 1) S b (by omega) (by omega)
    obtain ⟨y', S2, c2, ok2, p2, d2, b2, s2⟩ := ihy ok.2.2.2 _ (d + 1) S1 b1 (by omega) (by omega)
    obtain ⟨nr, f, S3, c3, h1, h2, b3, s3⟩ := wd_c (sg := sg) (d := d) ht (s := .unt p q x y) in_tU b2 (by omega) [x'.v, y'.v] (by simp)
    refine ⟨.unt nr f x' y', S3, ?_, ⟨h1, h2, ok1, ok2⟩, by show x'.parts + y'.parts + 1 = x.parts + y.parts + 1; omega, by show max x'.dep y'.dep + 1 = max x.dep y.dep + 1; omega, b3.mono (by show _ ≤ m + 2 * (x.parts + y.parts + 1); omega), (s1.trans s2).trans s3⟩
    rw [wd_call h, evSs_one (wd_a (s := .unt p q x y) rfl S _ _ _ _)]
    rw [evSs_one (wd_b hi (s := .unt p q x y) (l := [x'.v, y'.v]) (S' := S2) (by simp) (by simp [compGo, compF, wipeE, Pat.vars, Sy.inner, c1, c2]))]
    simp only [evSs, c3]
    rfl
/-- what draws sayings -/
structure DrawT (Φ : Tab) : Prop where
  take : Φ "_law_take" = some Co.fn__law_take
  one : Φ "_law_one_of" = some Co.fn__law_one_of
  any : Φ "_law_any" = some Co.fn__law_any
  inner : Φ "_law_inner" = some Co.fn__law_inner
  wide : Φ "_law_wide" = some Co.fn__law_wide
  great : Φ "_law_great" = some Co.fn__law_great
theorem great_ok (t : DrawT Φ) {n : Nat} {xs : List Str} (hx : ∀ x ∈ xs, Nice x) (h0 : 0 < xs.length) (hl : xs.length < 1000) (m : Nat) {d : Nat} (hd : 8 ≤ d) (S : Store) (b : Box S n m) (hm : m + 80 < 900000) :
    ∃ (s : Sy) (S' : Store), callF sg Φ d "_law_great" [.loc n, .lst (xs.map .str)] S = .ok s.v S' ∧ s.Ok ∧ s.parts ≤ 9 ∧ s.dep ≤ 5 ∧ Box S' n (m + 80) ∧ Same n S S' := by
  obtain ⟨d, rfl⟩ : ∃ k, d = k + 1 + 1 := ⟨d - 2, by omega⟩
  rw [call_eq t.great rfl]
  obtain ⟨r, S1, c1, hr, b1, s1⟩ := draw (sg := sg) (d := d) t.take b (by omega) 9 (by omega) (by omega)
  obtain ⟨q, S2, c2, hq, b2, s2⟩ := draw (sg := sg) (d := d) t.take b1 (by omega) 5 (by omega) (by omega)
  obtain ⟨s, S3, c3, ok, h1, h2, b3, s3⟩ := any_ok (sg := sg) t.take t.one t.any hx h0 hl (1 + q) (1 + r) 6 (m + 1 + 1) (d + 1) S2 (by omega) (by omega) (by omega) b2 (by omega) (by omega)
  obtain ⟨z, S4, c4, hz, b4, s4⟩ := draw (sg := sg) (d := d) t.take b3 (by omega) 6 (by omega) (by omega)
  have c1 : callF sg Φ (d + 1) "_law_take" [.loc n, .int 9] S = .ok (.int r) S1 := c1
  have c2 : callF sg Φ (d + 1) "_law_take" [.loc n, .int 5] S1 = .ok (.int q) S2 := c2
  have c3 : callF sg Φ (d + 1) "_law_any" [.loc n, .lst (xs.map .str), .int (1 + r), .int 6, .int (1 + q)] S2 = .ok s.v S3 := c3
  have c4 : callF sg Φ (d + 1) "_law_take" [.loc n, .int 6] S3 = .ok (.int z) S4 := c4
  by_cases hz0 : z = 0
  · obtain ⟨s', S5, c5, ok', p', d', b5, s5⟩ := wide_ok (sg := sg) t.take t.inner t.wide s ok _ (d + 1) S4 b4 (by omega) (by omega)
    refine ⟨s', S5, ?_, ok', by omega, by omega, b5.mono (by omega), (((s1.trans s2).trans s3).trans s4).trans s5⟩
    subst hz0
    simp [Co.fn__law_great, c1, c2, c3, c4, c5, parE, eqI]
  · refine ⟨s, S4, ?_, ok, by omega, by omega, b4.mono (by omega), ((s1.trans s2).trans s3).trans s4⟩
    have e : ((z : Int) == 0) = false := by
      rw [show ((z : Int) == 0) = decide (z = 0) from xeq_nat z 0]
      exact decide_eq_false hz0
    simp [Co.fn__law_great, c1, c2, c3, c4, parE, eqI, e]
end
end Pi

end
section
set_option linter.all false
set_option maxRecDepth 100000
/-! SyG: how many laws end; comprehensions of truths. -/
namespace Pi
open PySem
namespace Co
def fn_lawM (sz : Int) : Fn := ⟨1, 3, [.asg (.v 1) (.call "_law_folded" [(.lv 0), (.cst (.int sz))]),
  .ret (.bi .all [(.comp 1 [(.bi .max2 [(.cst (.int 1)), (.bi .len [(.lv 1)])])] (.v 2) [] (.call "_law_right" [(.call "_law_dip" [(.lv 1), (.lv 2)])]))])]⟩
end Co
section
variable {sg : Sig} {Φ : Tab}
theorem law_end {sz : Nat} (h0 : 0 < sz) (h9 : sz < 60) (tl : Φ "law" = some (Co.fn_lawM sz)) (tf : Φ "_law_folded" = some Co.fn__law_folded) (td : Φ "_law_dip" = some Co.fn__law_dip)
    (right : ∀ (n : Nat) (S : Store), Box S n 0 → ∃ S', callF sg Φ 99 "_law_right" [.loc n] S = .ok (.bl true) S') (ns : List Int) : ∃ S', callF sg Φ 100 "law" [.loc 0] [.ro (ns.map .int)] = .ok (.bl true) S' := by
  rw [call_eq tl rfl]
  obtain ⟨cs, hc, f1⟩ := folded_ok (sg := sg) (d := 98) (sz := sz) (ns := ns) (S := [.ro (ns.map .int)]) tf rfl (by omega) (by omega)
  obtain ⟨w, hw, hw2⟩ : ∃ w : Nat, biV [.ro (ns.map .int)] .max2 [.int 1, .int (cs.map Val.int).length] = some (.int w) ∧ w ≤ 60 := by
    simp
    by_cases z : (1 : Int) < cs.length
    · exact ⟨cs.length, by rw [if_pos z], by omega⟩
    · exact ⟨1, by rw [if_neg z]; rfl, by omega⟩
  have hit := it1 [.ro (ns.map .int)] w (by omega)
  have comp := compGo_one (f := compF sg (callF sg Φ 99) (.v 2) [] (.call "_law_right" [(.call "_law_dip" [(.lv 1), (.lv 2)])]) [some (.loc 0), some (.lst (cs.map .int)), none])
    (P := fun _ _ => True) (R := fun _ z => z = Val.bl true) (l := rangeL 0 w) (k := 0) (S := [.ro (ns.map .int)]) (fun i v S hi _ => by
      obtain ⟨hiw, rfl⟩ := range_get hi
      obtain ⟨S1, d1, b1⟩ := dip_ok (sg := sg) (d := 98) (k := i) (cs := cs) (S := S) td (by omega)
      obtain ⟨S2, r1⟩ := right _ S1 b1
      refine ⟨_, S2, ?_, trivial, rfl⟩
      simp [compF, wipeE, Pat.vars, d1, r1]) trivial
  obtain ⟨zs, S', c1, _, c3, c4⟩ := comp
  rw [range_len] at c3
  have hle : zs.length ≤ lim := by show _ ≤ 16777216; omega
  refine ⟨S', ?_⟩
  have hall := all_true (S := S') fun i z h => c4 i z h
  simp [Co.fn_lawM, f1] at hw ⊢
  simp [hw, hit, c1, hle, hall]
/-- each gives nothing or a truth -/
theorem compGo_all {f : Val → Store → Res (List Val)} {S : Store} : ∀ {l : List Val}, (∀ v ∈ l, ∃ ys, f v S = .ok ys S ∧ (∀ y ∈ ys, y = Val.bl true) ∧ ys.length ≤ 1) →
    ∃ zs, compGo f l S = .ok zs S ∧ (∀ z ∈ zs, z = Val.bl true) ∧ zs.length ≤ l.length
  | [], _ => ⟨[], rfl, (fun _ h => (by cases h)), Nat.le_refl _⟩
  | v :: r, h => by
    obtain ⟨ys, e1, h1, k1⟩ := h v (List.mem_cons_self ..)
    obtain ⟨zs, e2, h2, k2⟩ := compGo_all (l := r) fun w hw => h w (List.mem_cons_of_mem _ hw)
    refine ⟨ys ++ zs, by simp only [compGo, e1, e2], fun z hz => ?_, by rw [List.length_append, List.length_cons]; omega⟩
    rcases List.mem_append.mp hz with hz | hz
    · exact h1 z hz
    · exact h2 z hz
theorem all_true' {S : Store} {zs : List Val} (h : ∀ z ∈ zs, z = Val.bl true) : biV S .all [.lst zs] = some (.bl true) := all_true fun i z hz => h z (List.mem_of_getElem? hz)
end
end Pi

end
section
set_option linter.all false
set_option maxRecDepth 100000
/-! SyH: what a saying is, of any data. -/
namespace Pi
open PySem
def niceB (x : Str) : Bool := decide (1 ≤ x.length) && (decide (x.length ≤ 8) && (!decide (x ∈ wordsS) && x.cps.toList.all fun c => decide (c ∈ ("abcdefghijklmnopqrstuvwxyz" : Str).cps.toList)))
theorem in_ltr (c : Nat) : c ∈ ("abcdefghijklmnopqrstuvwxyz" : Str).cps.toList ↔ isLt c := by
  rw [ltr_list]
  simp
  omega
theorem niceB_iff (x : Str) : niceB x = true ↔ Nice x := by
  unfold niceB
  simp only [Bool.and_eq_true, decide_eq_true_eq, Bool.not_eq_true', decide_eq_false_iff_not, List.all_eq_true, in_ltr]
  exact ⟨fun ⟨a, b, c, d⟩ => ⟨a, b, d, c⟩, fun h => ⟨h.a, h.b, h.w, h.l⟩⟩
def isNm : Val → Bool
  | .str x => niceB x
  | _ => false
def isWh (a b : Int) : Val → Bool
  | .int k => decide (a ≤ k) && decide (k ≤ b)
  | _ => false
def isWi (a b : Val) : Bool := match a with
  | .int i => isWh 0 6 a && isWh i 6 b
  | _ => false
def on1 (f : Val → Bool) : List Val → Bool
  | [x] => f x
  | _ => false
def on2 (f : Val → Val → Bool) : List Val → Bool
  | [x, y] => f x y
  | _ => false
def on3 (f : Val → Val → Val → Bool) : List Val → Bool
  | [x, y, z] => f x y z
  | _ => false
def on4 (f : Val → Val → Val → Val → Bool) : List Val → Bool
  | [x, y, z, t] => f x y z t
  | _ => false
def shp (f : Val → Bool) (w : Str) (r : List Val) : Bool :=
  if w = "least" ∨ w = "most" then on2 (fun x k => isNm x && isWh (-99) 99 k) r
  else if w = "not" then on1 f r
  else if w = "both" ∨ w = "either" then on2 (fun x y => f x && f y) r
  else if w = "always" ∨ w = "sometime" then on3 (fun a b x => isWi a b && f x) r
  else if w = "until" then on4 (fun a b x y => isWi a b && (f x && f y)) r
  else false
def isF : Nat → Val → Bool
  | n + 1, .tup (.str w :: r) => shp (isF n) w r
  | _, _ => false
/-- none of the words -/
structure Oth (w : Str) : Prop where
  least : (w == "least") = false
  most : (w == "most") = false
  nt : (w == "not") = false
  both : (w == "both") = false
  either : (w == "either") = false
  always : (w == "always") = false
  sometime : (w == "sometime") = false
  until_ : (w == "until") = false
theorem wcl (w : Str) : (∃ u, w = wA u) ∨ w = "not" ∨ (∃ o, w = wP o) ∨ (∃ o, w = wW o) ∨ w = "until" ∨ Oth w := by
  by_cases h1 : w = "least"
  · exact .inl ⟨false, h1⟩
  by_cases h2 : w = "most"
  · exact .inl ⟨true, h2⟩
  by_cases h3 : w = "not"
  · exact .inr (.inl h3)
  by_cases h4 : w = "both"
  · exact .inr (.inr (.inl ⟨false, h4⟩))
  by_cases h5 : w = "either"
  · exact .inr (.inr (.inl ⟨true, h5⟩))
  by_cases h6 : w = "always"
  · exact .inr (.inr (.inr (.inl ⟨false, h6⟩)))
  by_cases h7 : w = "sometime"
  · exact .inr (.inr (.inr (.inl ⟨true, h7⟩)))
  by_cases h8 : w = "until"
  · exact .inr (.inr (.inr (.inr (.inl h8))))
  · exact .inr (.inr (.inr (.inr (.inr ⟨beq_eq_false_iff_ne.mpr h1, beq_eq_false_iff_ne.mpr h2, beq_eq_false_iff_ne.mpr h3, beq_eq_false_iff_ne.mpr h4, beq_eq_false_iff_ne.mpr h5, beq_eq_false_iff_ne.mpr h6, beq_eq_false_iff_ne.mpr h7, beq_eq_false_iff_ne.mpr h8⟩))))
theorem shp_A (f : Val → Bool) (u : Bool) (r : List Val) : shp f (wA u) r = on2 (fun x k => isNm x && isWh (-99) 99 k) r := by
  unfold shp
  cases u
  · exact if_pos (.inl rfl)
  · exact if_pos (.inr rfl)
theorem ne_of_beq {a b : Str} (h : (a == b) = false) : a ≠ b := beq_eq_false_iff_ne.mp h
theorem shp_N (f : Val → Bool) (r : List Val) : shp f "not" r = on1 f r := by
  unfold shp
  rw [if_neg (by decide +kernel), if_pos rfl]
theorem shp_P (f : Val → Bool) (o : Bool) (r : List Val) : shp f (wP o) r = on2 (fun x y => f x && f y) r := by
  unfold shp
  cases o
  · rw [if_neg (by decide +kernel), if_neg (by decide +kernel), if_pos (.inl rfl)]
  · rw [if_neg (by decide +kernel), if_neg (by decide +kernel), if_pos (.inr rfl)]
theorem shp_W (f : Val → Bool) (o : Bool) (r : List Val) : shp f (wW o) r = on3 (fun a b x => isWi a b && f x) r := by
  unfold shp
  cases o
  · rw [if_neg (by decide +kernel), if_neg (by decide +kernel), if_neg (by decide +kernel), if_pos (.inl rfl)]
  · rw [if_neg (by decide +kernel), if_neg (by decide +kernel), if_neg (by decide +kernel), if_pos (.inr rfl)]
theorem shp_U (f : Val → Bool) (r : List Val) : shp f "until" r = on4 (fun a b x y => isWi a b && (f x && f y)) r := by
  unfold shp
  rw [if_neg (by decide +kernel), if_neg (by decide +kernel), if_neg (by decide +kernel), if_neg (by decide +kernel), if_pos rfl]
theorem shp_O (f : Val → Bool) {w : Str} (h : Oth w) (r : List Val) : shp f w r = false := by
  unfold shp
  rw [if_neg (fun z => z.elim (ne_of_beq h.least) (ne_of_beq h.most)), if_neg (ne_of_beq h.nt), if_neg (fun z => z.elim (ne_of_beq h.both) (ne_of_beq h.either)), if_neg (fun z => z.elim (ne_of_beq h.always) (ne_of_beq h.sometime)), if_neg (ne_of_beq h.until_)]
/-- what is well made is a saying -/
theorem isWi_ok {a b : Val} (h : isWi a b = true) : ∃ n f : Nat, a = .int n ∧ b = .int f ∧ n ≤ f ∧ f ≤ 6 := by
  cases a with
  | int i =>
    cases b with
    | int j =>
      have h : ((decide (0 ≤ i) && decide (i ≤ 6)) && (decide (i ≤ j) && decide (j ≤ 6))) = true := h
      simp only [Bool.and_eq_true, decide_eq_true_eq] at h
      obtain ⟨n, rfl⟩ := Int.eq_ofNat_of_zero_le h.1.1
      obtain ⟨f, rfl⟩ := Int.eq_ofNat_of_zero_le (show 0 ≤ j by omega)
      exact ⟨n, f, rfl, rfl, by omega, by omega⟩
    | _ =>
      have h : (isWh 0 6 (.int i) && false) = true := h
      rw [Bool.and_false] at h
      cases h
  | _ => cases h
theorem isF_ok : ∀ (n : Nat) (v : Val), isF n v = true → ∃ s : Sy, v = s.v ∧ s.Ok ∧ s.dep ≤ n
  | 0, v, h => by cases h
  | n + 1, .tup (.str w :: r), h => by
    have h : shp (isF n) w r = true := h
    rcases wcl w with ⟨u, rfl⟩ | rfl | ⟨o, rfl⟩ | ⟨o, rfl⟩ | rfl | hw
    · rw [shp_A] at h
      match r, h with
      | [x, k], h =>
        have h : (isNm x && isWh (-99) 99 k) = true := h
        rw [Bool.and_eq_true] at h
        cases x with
        | str x => cases k with
          | int k =>
            have h2 : (decide (-99 ≤ k) && decide (k ≤ 99)) = true := h.2
            simp only [Bool.and_eq_true, decide_eq_true_eq] at h2
            exact ⟨.atm u x k, rfl, ⟨(niceB_iff x).mp h.1, h2.1, h2.2⟩, by show 1 ≤ n + 1; omega⟩
          | _ => cases h.2
        | _ => cases h.1
    · rw [shp_N] at h
      match r, h with
      | [x], h =>
        obtain ⟨s, rfl, a, b⟩ := isF_ok n x h
        exact ⟨.nt s, rfl, a, by show s.dep + 1 ≤ n + 1; omega⟩
    · rw [shp_P] at h
      match r, h with
      | [x, y], h =>
        have h : (isF n x && isF n y) = true := h
        rw [Bool.and_eq_true] at h
        obtain ⟨s, rfl, a, b⟩ := isF_ok n x h.1
        obtain ⟨t, rfl, c, d⟩ := isF_ok n y h.2
        exact ⟨.two o s t, rfl, ⟨a, c⟩, by show max s.dep t.dep + 1 ≤ n + 1; omega⟩
    · rw [shp_W] at h
      match r, h with
      | [p, q, x], h =>
        have h : (isWi p q && isF n x) = true := h
        rw [Bool.and_eq_true] at h
        obtain ⟨i, j, rfl, rfl, h1, h2⟩ := isWi_ok h.1
        obtain ⟨s, rfl, a, b⟩ := isF_ok n x h.2
        exact ⟨.win o i j s, rfl, ⟨h1, h2, a⟩, by show s.dep + 1 ≤ n + 1; omega⟩
    · rw [shp_U] at h
      match r, h with
      | [p, q, x, y], h =>
        have h : (isWi p q && (isF n x && isF n y)) = true := h
        rw [Bool.and_eq_true, Bool.and_eq_true] at h
        obtain ⟨i, j, rfl, rfl, h1, h2⟩ := isWi_ok h.1
        obtain ⟨s, rfl, a, b⟩ := isF_ok n x h.2.1
        obtain ⟨t, rfl, c, d⟩ := isF_ok n y h.2.2
        exact ⟨.unt i j s t, rfl, ⟨h1, h2, a, c⟩, by show max s.dep t.dep + 1 ≤ n + 1; omega⟩
    · rw [shp_O _ hw] at h
      cases h
  | n + 1, .tup [], h => by cases h
  | n + 1, .tup (.non :: _), h => by cases h
  | n + 1, .tup (.bl _ :: _), h => by cases h
  | n + 1, .tup (.int _ :: _), h => by cases h
  | n + 1, .tup (.tup _ :: _), h => by cases h
  | n + 1, .tup (.lst _ :: _), h => by cases h
  | n + 1, .tup (.loc _ :: _), h => by cases h
  | n + 1, .tup (.exn _ _ :: _), h => by cases h
  | n + 1, .tup (.dct _ _ :: _), h => by cases h
  | n + 1, .non, h => by cases h
  | n + 1, .bl _, h => by cases h
  | n + 1, .int _, h => by cases h
  | n + 1, .str _, h => by cases h
  | n + 1, .lst _, h => by cases h
  | n + 1, .loc _, h => by cases h
  | n + 1, .exn _ _, h => by cases h
  | n + 1, .dct _ _, h => by cases h
/-- .. and the other way -/
theorem niceB_of {x : Str} (h : Nice x) : niceB x = true := (niceB_iff x).mpr h
theorem isF_sy : ∀ (s : Sy), s.Ok → ∀ {n : Nat}, s.dep ≤ n → isF n s.v = true := by
  intro s
  induction s with
  | atm u x k =>
    intro ok n hn
    have hn : 1 ≤ n := hn
    obtain ⟨m, rfl⟩ : ∃ m, n = m + 1 := ⟨n - 1, by omega⟩
    show shp _ (wA u) [.str x, .int k] = true
    rw [shp_A]
    show (niceB x && (decide (-99 ≤ k) && decide (k ≤ 99))) = true
    rw [niceB_of ok.1, decide_eq_true ok.2.1, decide_eq_true ok.2.2]
    rfl
  | nt s ih =>
    intro ok n hn
    have hn : s.dep + 1 ≤ n := hn
    obtain ⟨m, rfl⟩ : ∃ m, n = m + 1 := ⟨n - 1, by omega⟩
    show shp _ "not" [s.v] = true
    rw [shp_N]
    exact ih ok (by omega)
  | two o a b iha ihb =>
    intro ok n hn
    have hn : max a.dep b.dep + 1 ≤ n := hn
    obtain ⟨m, rfl⟩ : ∃ m, n = m + 1 := ⟨n - 1, by omega⟩
    show shp _ (wP o) [a.v, b.v] = true
    rw [shp_P]
    show (isF m a.v && isF m b.v) = true
    rw [iha ok.1 (by omega), ihb ok.2 (by omega)]
    rfl
  | win o p q s ih =>
    intro ok n hn
    have hn : s.dep + 1 ≤ n := hn
    obtain ⟨m, rfl⟩ : ∃ m, n = m + 1 := ⟨n - 1, by omega⟩
    have h1 := ok.1
    have h2 := ok.2.1
    show shp _ (wW o) [.int p, .int q, s.v] = true
    rw [shp_W]
    show (((decide ((0 : Int) ≤ p) && decide ((p : Int) ≤ 6)) && (decide ((p : Int) ≤ q) && decide ((q : Int) ≤ 6))) && isF m s.v) = true
    rw [ih ok.2.2 (by omega), decide_eq_true (by omega), decide_eq_true (by omega), decide_eq_true (by omega), decide_eq_true (by omega)]
    rfl
  | unt p q a b iha ihb =>
    intro ok n hn
    have hn : max a.dep b.dep + 1 ≤ n := hn
    obtain ⟨m, rfl⟩ : ∃ m, n = m + 1 := ⟨n - 1, by omega⟩
    have h1 := ok.1
    have h2 := ok.2.1
    show shp _ "until" [.int p, .int q, a.v, b.v] = true
    rw [shp_U]
    show (((decide ((0 : Int) ≤ p) && decide ((p : Int) ≤ 6)) && (decide ((p : Int) ≤ q) && decide ((q : Int) ≤ 6))) && (isF m a.v && isF m b.v)) = true
    rw [iha ok.2.2.1 (by omega), ihb ok.2.2.2 (by omega), decide_eq_true (by omega), decide_eq_true (by omega), decide_eq_true (by omega), decide_eq_true (by omega)]
    rfl
end Pi

end
section
set_option linter.all false
set_option maxRecDepth 100000
/-! SyP: what the program's defs say of any data. -/
namespace Pi
open PySem
namespace Co
def fn_is_name : Fn := ⟨1, 2, [.ite (.or [(.not (.isa (.lv 0) [.str])), (.not (.chain .le .le (.cst (.int 1)) (.bi .len [(.lv 0)]) (.gv "MOST_LETTERS" (.int 8)))), (.cmp .in_ (.lv 0) (.gv "SAYING_WORDS" (.tup [(.str "and"), (.str "or"), (.str "not"), (.str "until"), (.str "always"), (.str "sometime")])))]) [.ret (.cst (.bl false))] [],
  .ret (.bi .all [(.comp 0 [(.lv 0)] (.v 1) [] (.cmp .in_ (.lv 1) (.gv "LETTERS" (.str "abcdefghijklmnopqrstuvwxyz"))))])]⟩
def fn_is_whole : Fn := ⟨3, 3, [.ret (.and [(.isa (.lv 0) [.int]), (.not (.isa (.lv 0) [.bool])), (.chain .le .le (.lv 1) (.lv 0) (.lv 2))])]⟩
def fn_is_window : Fn := ⟨2, 2, [.ret (.and [(.call "is_whole" [(.lv 0), (.cst (.int 0)), (.gv "MOST_FAR" (.int 6))]), (.call "is_whole" [(.lv 1), (.lv 0), (.gv "MOST_FAR" (.int 6))])])]⟩
def fn_is_form : Fn := ⟨1, 4, [.ite (.or [(.not (.isa (.lv 0) [.tup])), (.cmp .eq (.bi .len [(.lv 0)]) (.cst (.int 0))), (.not (.isa (.ix (.lv 0) (.cst (.int 0))) [.str]))]) [.ret (.cst (.bl false))] [],
  .asg (.star [(.v 1)] 2) (.lv 0),
  .ite (.cmp .in_ (.lv 1) (.gv "ATOMS" (.tup [(.str "least"), (.str "most")]))) [.ret (.and [(.cmp .eq (.bi .len [(.lv 2)]) (.cst (.int 2))), (.call "is_name" [(.ix (.lv 2) (.cst (.int 0)))]), (.call "is_whole" [(.ix (.lv 2) (.cst (.int 1))), (.neg (.gv "MOST_NUMBER" (.int 99))), (.gv "MOST_NUMBER" (.int 99))])])] [],
  .ite (.or [(.cmp .in_ (.lv 1) (.gv "WINDOWED" (.tup [(.str "always"), (.str "sometime")]))), (.cmp .eq (.lv 1) (.gv "UNTIL" (.str "until")))]) [.ite (.or [(.cmp .ne (.bi .len [(.lv 2)]) (.bin .add (.cst (.int 3)) (.bi .int [(.cmp .eq (.lv 1) (.gv "UNTIL" (.str "until")))]))), (.not (.call "is_window" [(.ix (.lv 2) (.cst (.int 0))), (.ix (.lv 2) (.cst (.int 1)))]))]) [.ret (.cst (.bl false))] [], .ret (.bi .all [(.comp 0 [(.sl (.lv 2) [(.cst (.int 2))] [])] (.v 3) [] (.call "is_form" [(.lv 3)]))])] [],
  .ite (.and [(.cmp .ne (.lv 1) (.cst (.str "not"))), (.cmp .nin (.lv 1) (.gv "PAIRS" (.tup [(.str "both"), (.str "either")])))]) [.ret (.cst (.bl false))] [],
  .ret (.and [(.cmp .eq (.bi .len [(.lv 2)]) (.bin .add (.cst (.int 1)) (.bi .int [(.cmp .in_ (.lv 1) (.gv "PAIRS" (.tup [(.str "both"), (.str "either")])))]))), (.bi .all [(.comp 0 [(.lv 2)] (.v 3) [] (.call "is_form" [(.lv 3)]))])])]⟩
def fn_inner_of : Fn := ⟨1, 3, [.asg (.star [(.v 1)] 2) (.lv 0),
  .ite (.cmp .in_ (.lv 1) (.gv "ATOMS" (.tup [(.str "least"), (.str "most")]))) [.ret (.lst [])] [],
  .ret (.ite (.or [(.cmp .eq (.lv 1) (.cst (.str "not"))), (.cmp .in_ (.lv 1) (.gv "PAIRS" (.tup [(.str "both"), (.str "either")])))]) (.lv 2) (.sl (.lv 2) [(.cst (.int 2))] []))]⟩
def fn_parts_of : Fn := ⟨1, 2, [.ret (.bi .sumS [(.comp 0 [(.call "inner_of" [(.lv 0)])] (.v 1) [] (.call "parts_of" [(.lv 1)])), (.cst (.int 1))])]⟩
def fn_deep_of : Fn := ⟨1, 2, [.ret (.bin .add (.cst (.int 1)) (.bi .maxD [(.comp 0 [(.call "inner_of" [(.lv 0)])] (.v 1) [] (.call "deep_of" [(.lv 1)])), (.cst (.int 0))]))]⟩
def fn_is_saying : Fn := ⟨1, 1, [.ret (.and [(.call "is_form" [(.lv 0)]), (.cmp .le (.call "parts_of" [(.lv 0)]) (.gv "MOST_PARTS" (.int 9))), (.cmp .le (.call "deep_of" [(.lv 0)]) (.gv "MOST_DEEP" (.int 5)))])]⟩
def pf0 : IS := .ite (.or [(.not (.isa (.lv 0) [.tup])), (.cmp .eq (.bi .len [(.lv 0)]) (.cst (.int 0))), (.not (.isa (.ix (.lv 0) (.cst (.int 0))) [.str]))]) [.ret (.cst (.bl false))] []
def pf1 : IS := .asg (.star [(.v 1)] 2) (.lv 0)
def pf2 : IS := .ite (.cmp .in_ (.lv 1) (.gv "ATOMS" (.tup [(.str "least"), (.str "most")]))) [.ret (.and [(.cmp .eq (.bi .len [(.lv 2)]) (.cst (.int 2))), (.call "is_name" [(.ix (.lv 2) (.cst (.int 0)))]), (.call "is_whole" [(.ix (.lv 2) (.cst (.int 1))), (.neg (.gv "MOST_NUMBER" (.int 99))), (.gv "MOST_NUMBER" (.int 99))])])] []
def pf3 : IS := .ite (.or [(.cmp .in_ (.lv 1) (.gv "WINDOWED" (.tup [(.str "always"), (.str "sometime")]))), (.cmp .eq (.lv 1) (.gv "UNTIL" (.str "until")))]) [.ite (.or [(.cmp .ne (.bi .len [(.lv 2)]) (.bin .add (.cst (.int 3)) (.bi .int [(.cmp .eq (.lv 1) (.gv "UNTIL" (.str "until")))]))), (.not (.call "is_window" [(.ix (.lv 2) (.cst (.int 0))), (.ix (.lv 2) (.cst (.int 1)))]))]) [.ret (.cst (.bl false))] [], .ret (.bi .all [(.comp 0 [(.sl (.lv 2) [(.cst (.int 2))] [])] (.v 3) [] (.call "is_form" [(.lv 3)]))])] []
def pf4 : IS := .ite (.and [(.cmp .ne (.lv 1) (.cst (.str "not"))), (.cmp .nin (.lv 1) (.gv "PAIRS" (.tup [(.str "both"), (.str "either")])))]) [.ret (.cst (.bl false))] []
def pf5 : IS := .ret (.and [(.cmp .eq (.bi .len [(.lv 2)]) (.bin .add (.cst (.int 1)) (.bi .int [(.cmp .in_ (.lv 1) (.gv "PAIRS" (.tup [(.str "both"), (.str "either")])))]))), (.bi .all [(.comp 0 [(.lv 2)] (.v 3) [] (.call "is_form" [(.lv 3)]))])])
theorem pf_eq : fn_is_form.body = [pf0, pf1, pf2, pf3, pf4, pf5] := rfl
end Co
section
variable {sg : Sig} {Φ : Tab} {cf : String → List Val → Store → Res Val}
/-- data: no reference, no exception -/
theorem iswhole_ok (h : Φ "is_whole" = some Co.fn_is_whole) {n : Nat} {v : Val} (g : goodV n v = true) (a b : Int) (d : Nat) (S : Store) : callF sg Φ (d + 1) "is_whole" [v, .int a, .int b] S = .ok (.bl (isWh a b v)) S := by
  rw [call_eq h rfl]
  cases v with
  | int k => by_cases h1 : a ≤ k <;> simp [Co.fn_is_whole, isasV, isaV, isWh, h1]
  | non => kernel_rfl
  | bl _ => kernel_rfl
  | str _ => kernel_rfl
  | tup _ => kernel_rfl
  | lst _ => kernel_rfl
  | _ => cases n <;> cases g
theorem num_ok (h : Φ "_law_is_number" = some Co.fn__law_is_number) {n : Nat} {v : Val} (g : goodV n v = true) (a b : Int) (d : Nat) (S : Store) : callF sg Φ (d + 1) "_law_is_number" [v, .int a, .int b] S = .ok (.bl (isWh a b v)) S := by
  rw [call_eq h rfl]
  cases v with
  | int k => by_cases h1 : a ≤ k <;> simp [Co.fn__law_is_number, isasV, isaV, isWh, h1]
  | non => kernel_rfl
  | bl _ => kernel_rfl
  | str _ => kernel_rfl
  | tup _ => kernel_rfl
  | lst _ => kernel_rfl
  | _ => cases n <;> cases g
theorem iswin_ok (hw : Φ "is_whole" = some Co.fn_is_whole) (h : Φ "is_window" = some Co.fn_is_window) {n : Nat} {v w : Val} (g : goodV n v = true) (g2 : goodV n w = true) (d : Nat) (S : Store) :
    callF sg Φ (d + 2) "is_window" [v, w] S = .ok (.bl (isWi v w)) S := by
  rw [call_eq h rfl]
  have a := iswhole_ok (sg := sg) hw g 0 6 d S
  cases v with
  | int i =>
    have b := iswhole_ok (sg := sg) hw g2 i 6 d S
    cases e : isWh 0 6 (.int i) with
    | true =>
      rw [e] at a
      simp [Co.fn_is_window, a, b, isWi, e]
    | false =>
      rw [e] at a
      simp [Co.fn_is_window, a, isWi, e]
  | _ =>
    have a : callF sg Φ (d + 1) "is_whole" [_, .int 0, .int 6] S = .ok (.bl false) S := a
    simp [Co.fn_is_window, a, isWi]
/-- a comprehension of truths over signs -/
theorem compGo_map {α : Type} {f : Val → Store → Res (List Val)} {g h : α → Val} {S : Store} : ∀ {l : List α}, (∀ c ∈ l, f (g c) S = .ok [h c] S) → compGo f (l.map g) S = .ok (l.map h) S
  | [], _ => rfl
  | c :: r, e => by
    simp only [List.map_cons, compGo, e c (List.mem_cons_self ..), compGo_map (l := r) fun d hd => e d (List.mem_cons_of_mem _ hd)]
    rfl
theorem bls_map {α : Type} (p : α → Bool) : ∀ l : List α, blsV (l.map fun c => Val.bl (p c)) = some (l.map p)
  | [] => rfl
  | c :: r => by
    show (blsV (r.map fun c => Val.bl (p c))).map (p c :: ·) = _
    rw [bls_map p r]
    rfl
theorem all_map {α : Type} (S : Store) (p : α → Bool) (l : List α) : biV S .all [.lst (l.map fun c => Val.bl (p c))] = some (.bl (l.all p)) := by
  show (blsV (l.map fun c => Val.bl (p c))).map (fun bs => Val.bl (bs.all id)) = _
  rw [bls_map, Option.map_some, List.all_map]
  rfl
theorem in_words (x : Str) : cmpV .in_ (.str x) (.tup [.str "and", .str "or", .str "not", .str "until", .str "always", .str "sometime"]) = some (decide (x ∈ wordsS)) := by
  show some ((wordsS.map Val.str).any fun y => eqV y (.str x)) = _
  congr 1
  rw [List.any_map]
  by_cases h : x ∈ wordsS
  · rw [decide_eq_true h, List.any_eq_true]
    exact ⟨x, h, beq_self_eq_true x⟩
  · rw [decide_eq_false h, List.any_eq_false]
    intro w hw z
    have e : w = x := eq_of_beq z
    exact h (e ▸ hw)
theorem sign_in (c : Nat) : cmpV .in_ (.str ⟨#[c]⟩) (.str "abcdefghijklmnopqrstuvwxyz") = some (decide (c ∈ ("abcdefghijklmnopqrstuvwxyz" : Str).cps.toList)) := rfl
theorem pname_ok (h : Φ "is_name" = some Co.fn_is_name) {n : Nat} {v : Val} (g : goodV n v = true) (d : Nat) (S : Store) : callF sg Φ (d + 1) "is_name" [v] S = .ok (.bl (isNm v)) S := by
  rw [call_eq h rfl]
  cases v with
  | str x =>
    have i := in_words x
    by_cases h1 : 1 ≤ x.length
    · have h1' : (1 : Int) ≤ (x.length : Int) := by omega
      by_cases h2 : x.length ≤ 8
      · have h2' : (x.length : Int) ≤ 8 := by omega
        by_cases h3 : x ∈ wordsS
        · rw [decide_eq_true h3] at i
          simp [Co.fn_is_name, isasV, isaV, h1, h2, h1', h2', i, isNm, niceB, h3]
        · rw [decide_eq_false h3] at i
          have go := compGo_map (f := compF sg (callF sg Φ d) (.v 1) [] (.cmp .in_ (.lv 1) (.gv "LETTERS" (.str "abcdefghijklmnopqrstuvwxyz"))) [some (.str x), none]) (g := fun c => Val.str ⟨#[c]⟩)
            (h := fun c => Val.bl (decide (c ∈ ("abcdefghijklmnopqrstuvwxyz" : Str).cps.toList))) (S := S) (l := x.cps.toList) fun c _ => by simp [compF, wipeE, Pat.vars, sign_in]
          have il : (x.cps.toList.map fun c => Val.bl (decide (c ∈ ("abcdefghijklmnopqrstuvwxyz" : Str).cps.toList))).length ≤ lim := by
            rw [List.length_map, Array.length_toList]
            exact Nat.le_trans h2 (by decide)
          have al := all_map S (fun c => decide (c ∈ ("abcdefghijklmnopqrstuvwxyz" : Str).cps.toList)) x.cps.toList
          have e1 : evS sg (callF sg Φ d) (.ite (.or [(.not (.isa (.lv 0) [.str])), (.not (.chain .le .le (.cst (.int 1)) (.bi .len [(.lv 0)]) (.gv "MOST_LETTERS" (.int 8)))), (.cmp .in_ (.lv 0) (.gv "SAYING_WORDS" (.tup [(.str "and"), (.str "or"), (.str "not"), (.str "until"), (.str "always"), (.str "sometime")])))]) [.ret (.cst (.bl false))] []) [some (.str x), none] S = .nx [some (.str x), none] S := by
            simp [isasV, isaV, h1, h2, h1', h2', i]
          show finO (evSs sg (callF sg Φ d) [_, .ret (.bi .all [(.comp 0 [(.lv 0)] (.v 1) [] (.cmp .in_ (.lv 1) (.gv "LETTERS" (.str "abcdefghijklmnopqrstuvwxyz"))))])] [some (.str x), none] S) = _
          rw [evSs_one e1]
          have it : itV S 0 [.str x] = some (x.cps.toList.map fun c => Val.str ⟨#[c]⟩) := rfl
          simp only [evSs, evS_q11, evE_q18, evEs_q0, evEs_q1, evE_cmp, evE_q0, List.getElem?_cons_zero, Res.bind_ok, Res.on_ok, Res.of_some, it, go, if_pos il, al, Out.then_rt]
          show _ = Res.ok (Val.bl (niceB x)) S
          unfold niceB
          rw [decide_eq_true h1, decide_eq_true h2, decide_eq_false h3]
          rfl
      · have h2' : ¬ ((x.length : Int) ≤ 8) := by omega
        simp [Co.fn_is_name, isasV, isaV, h1, h2, h1', h2', isNm, niceB]
    · have h1' : ¬ ((1 : Int) ≤ (x.length : Int)) := by omega
      simp [Co.fn_is_name, isasV, isaV, h1, h1', isNm, niceB]
  | non => kernel_rfl
  | bl _ => kernel_rfl
  | int _ => kernel_rfl
  | tup _ => kernel_rfl
  | lst _ => kernel_rfl
  | _ => cases n <;> cases g
end
end Pi

end
section
set_option linter.all false
set_option maxRecDepth 100000
/-! SyQ: is_form and the law's own, of any data. -/
namespace Pi
open PySem
theorem star1 {v : Val} {l : List Val} {ρ : Env} : bindP (.star [.v 1] 2) (.tup (v :: l)) ρ = some ((ρ.set 1 (some v)).set 2 (some (.lst l))) := by
  simp [bindP]
theorem len_ne0 (r : List Val) : ((r.length : Int) + 1 == 0) = false := beq_eq_false_iff_ne.mpr (by omega)
theorem len_eq (r : List Val) (k : Nat) : ((r.length : Int) == (k : Int)) = decide (r.length = k) := xeq_nat r.length k
theorem bsym {a b : Str} (h : (a == b) = false) : (b == a) = false := beq_eq_false_iff_ne.mpr fun z => (beq_eq_false_iff_ne.mp h) z.symm
theorem oth_a {w : Str} (h : Oth w) : cmpV .in_ (.str w) (.tup [.str "least", .str "most"]) = some false := by
  show some ((("least" : Str) == w) || ((("most" : Str) == w) || false)) = _
  rw [bsym h.least, bsym h.most]
  rfl
theorem oth_p {w : Str} (h : Oth w) : cmpV .in_ (.str w) (.tup [.str "both", .str "either"]) = some false := by
  show some ((("both" : Str) == w) || ((("either" : Str) == w) || false)) = _
  rw [bsym h.both, bsym h.either]
  rfl
theorem oth_np {w : Str} (h : Oth w) : cmpV .nin (.str w) (.tup [.str "both", .str "either"]) = some true := by
  show some (!((("both" : Str) == w) || ((("either" : Str) == w) || false))) = _
  rw [bsym h.both, bsym h.either]
  rfl
theorem oth_w {w : Str} (h : Oth w) : cmpV .in_ (.str w) (.tup [.str "always", .str "sometime"]) = some false := by
  show some ((("always" : Str) == w) || ((("sometime" : Str) == w) || false)) = _
  rw [bsym h.always, bsym h.sometime]
  rfl
theorem nin_pN : cmpV .nin (.str "not") (.tup [.str "both", .str "either"]) = some true := by decide +kernel
theorem nin_pP (o : Bool) : cmpV .nin (.str (wP o)) (.tup [.str "both", .str "either"]) = some false := by cases o <;> decide +kernel
theorem neS (a b : Str) : cmpV .ne (.str a) (.str b) = some (!(a == b)) := rfl
theorem neII (a b : Int) : cmpV .ne (.int a) (.int b) = some (!(a == b)) := rfl
theorem sh1 {f : Val → Bool} {r : List Val} (h : r.length ≠ 1) : on1 f r = false := by
  match r, h with
  | [], _ => rfl
  | [_], h => exact absurd rfl h
  | _ :: _ :: _, _ => rfl
theorem sh2 {f : Val → Val → Bool} {r : List Val} (h : r.length ≠ 2) : on2 f r = false := by
  match r, h with
  | [], _ => rfl
  | [_], _ => rfl
  | [_, _], h => exact absurd rfl h
  | _ :: _ :: _ :: _, _ => rfl
theorem sh3 {f : Val → Val → Val → Bool} {r : List Val} (h : r.length ≠ 3) : on3 f r = false := by
  match r, h with
  | [], _ => rfl
  | [_], _ => rfl
  | [_, _], _ => rfl
  | [_, _, _], h => exact absurd rfl h
  | _ :: _ :: _ :: _ :: _, _ => rfl
theorem sh4 {f : Val → Val → Val → Val → Bool} {r : List Val} (h : r.length ≠ 4) : on4 f r = false := by
  match r, h with
  | [], _ => rfl
  | [_], _ => rfl
  | [_, _], _ => rfl
  | [_, _, _], _ => rfl
  | [_, _, _, _], h => exact absurd rfl h
  | _ :: _ :: _ :: _ :: _ :: _, _ => rfl
theorem len1 {r : List Val} (h : r.length = 1) : ∃ x, r = [x] := by
  match r, h with
  | [x], _ => exact ⟨x, rfl⟩
theorem len2 {r : List Val} (h : r.length = 2) : ∃ x y, r = [x, y] := by
  match r, h with
  | [x, y], _ => exact ⟨x, y, rfl⟩
theorem len3 {r : List Val} (h : r.length = 3) : ∃ x y z, r = [x, y, z] := by
  match r, h with
  | [x, y, z], _ => exact ⟨x, y, z, rfl⟩
theorem len4 {r : List Val} (h : r.length = 4) : ∃ x y z t, r = [x, y, z, t] := by
  match r, h with
  | [x, y, z, t], _ => exact ⟨x, y, z, t, rfl⟩
theorem all1 (S : Store) (a : Bool) : biV S .all [.lst [.bl a]] = some (.bl a) := by cases a <;> rfl
theorem all2 (S : Store) (a b : Bool) : biV S .all [.lst [.bl a, .bl b]] = some (.bl (a && b)) := by cases a <;> cases b <;> rfl
theorem good_tl {n : Nat} {l : List Val} (h : goodV (n + 1) (.tup l) = true) : ∀ x ∈ l, goodV n x = true := by
  have h : (decide (l.length ≤ lim) && l.all (goodV n)) = true := h
  rw [Bool.and_eq_true, List.all_eq_true] at h
  exact h.2
section
variable {sg : Sig} {Φ : Tab} {cf : String → List Val → Store → Res Val}
structure ProgT (Φ : Tab) : Prop where
  whole : Φ "is_whole" = some Co.fn_is_whole
  window : Φ "is_window" = some Co.fn_is_window
  name : Φ "is_name" = some Co.fn_is_name
  form : Φ "is_form" = some Co.fn_is_form
  inner : Φ "inner_of" = some Co.fn_inner_of
  parts : Φ "parts_of" = some Co.fn_parts_of
  deep : Φ "deep_of" = some Co.fn_deep_of
  saying : Φ "is_saying" = some Co.fn_is_saying
theorem pf_call (h : Φ "is_form" = some Co.fn_is_form) (v : Val) (d : Nat) (S : Store) :
    callF sg Φ (d + 1) "is_form" [v] S = finO (evSs sg (callF sg Φ d) [Co.pf0, Co.pf1, Co.pf2, Co.pf3, Co.pf4, Co.pf5] [some v, none, none, none] S) := by
  rw [call_eq h rfl, Co.pf_eq]
  rfl
theorem pf_01 (w : Str) (r : List Val) (l : List IS) (S : Store) : evSs sg cf (Co.pf0 :: Co.pf1 :: l) [some (.tup (.str w :: r)), none, none, none] S =
    evSs sg cf l [some (.tup (.str w :: r)), some (.str w), some (.lst r), none] S := by
  have z := len_ne0 r
  rw [evSs_one (ρ' := [some (.tup (.str w :: r)), none, none, none]) (S' := S), evSs_one (ρ' := [some (.tup (.str w :: r)), some (.str w), some (.lst r), none]) (S' := S)]
  · simp [Co.pf1, star1]
  · simp [Co.pf0, isasV, isaV, eqI, at0, z]
theorem pform_ok (t : ProgT Φ) : ∀ (n : Nat) (v : Val), goodV n v = true → ∀ (d : Nat) (S : Store), n + 3 ≤ d → callF sg Φ d "is_form" [v] S = .ok (.bl (isF n v)) S := by
  intro n
  induction n with
  | zero =>
    intro v g d S hd
    obtain ⟨d, rfl⟩ : ∃ k, d = k + 1 := ⟨d - 1, by omega⟩
    rw [pf_call t.form]
    cases v with
    | non => kernel_rfl
    | bl _ => kernel_rfl
    | int _ => kernel_rfl
    | str _ => kernel_rfl
    | _ => cases g
  | succ n ih =>
    intro v g d S hd
    obtain ⟨d, rfl⟩ : ∃ k, d = k + 1 + 1 + 1 := ⟨d - 3, by omega⟩
    rw [pf_call t.form]
    cases v with
    | non => kernel_rfl
    | bl _ => kernel_rfl
    | int _ => kernel_rfl
    | str _ => kernel_rfl
    | lst _ => kernel_rfl
    | loc _ => cases g
    | exn _ _ => cases g
    | dct _ _ => cases g
    | tup l =>
      cases l with
      | nil => kernel_rfl
      | cons hh r =>
        have gl := good_tl g
        have gh := gl hh (List.mem_cons_self ..)
        have gr : ∀ x ∈ r, goodV n x = true := fun x hx => gl x (List.mem_cons_of_mem _ hx)
        by_cases hs : ∃ w, hh = .str w
        · obtain ⟨w, rfl⟩ := hs
          rw [pf_01]
          show _ = Res.ok (Val.bl (shp (isF n) w r)) S
          rcases wcl w with ⟨u, rfl⟩ | rfl | ⟨o, rfl⟩ | ⟨o, rfl⟩ | rfl | hw
          · rw [shp_A]
            by_cases hl : r.length = 2
            · obtain ⟨x, k, rfl⟩ := len2 hl
              have c1 := pname_ok (sg := sg) t.name (gr x (by simp)) (d + 1) S
              have c2 := iswhole_ok (sg := sg) t.whole (gr k (by simp)) (-99) 99 (d + 1) S
              cases e : isNm x with
              | true =>
                rw [e] at c1
                simp [Co.pf2, at0, at1, c1, c2, eqI, e, on2]
              | false =>
                rw [e] at c1
                simp [Co.pf2, at0, at1, c1, eqI, e, on2]
            · have z : ((r.length : Int) == 2) = false := (len_eq r 2).trans (decide_eq_false hl)
              rw [sh2 hl]
              simp [Co.pf2, eqI, z]
          · rw [shp_N]
            by_cases hl : r.length = 1
            · obtain ⟨x, rfl⟩ := len1 hl
              have c1 := ih x (gr x (by simp)) (d + 1 + 1) S (by omega)
              simp [Co.pf2, Co.pf3, Co.pf4, Co.pf5, eqI, eqS, neS, nin_pN, itV, compGo, compF, wipeE, Pat.vars, lim, c1, all1, on1]
            · have z : ((r.length : Int) == 1) = false := (len_eq r 1).trans (decide_eq_false hl)
              rw [sh1 hl]
              simp [Co.pf2, Co.pf3, Co.pf4, Co.pf5, eqI, eqS, neS, nin_pN, z]
          · rw [shp_P]
            by_cases hl : r.length = 2
            · obtain ⟨x, y, rfl⟩ := len2 hl
              have c1 := ih x (gr x (by simp)) (d + 1 + 1) S (by omega)
              have c2 := ih y (gr y (by simp)) (d + 1 + 1) S (by omega)
              simp [Co.pf2, Co.pf3, Co.pf4, Co.pf5, eqI, eqS, neS, nin_pP, itV, compGo, compF, wipeE, Pat.vars, lim, c1, c2, all2, on2]
            · have z : ((r.length : Int) == 2) = false := (len_eq r 2).trans (decide_eq_false hl)
              rw [sh2 hl]
              simp [Co.pf2, Co.pf3, Co.pf4, Co.pf5, eqI, eqS, neS, nin_pP, z]
          · rw [shp_W]
            by_cases hl : r.length = 3
            · obtain ⟨p, q, x, rfl⟩ := len3 hl
              have c1 := ih x (gr x (by simp)) (d + 1 + 1) S (by omega)
              have c2 := iswin_ok (sg := sg) t.whole t.window (gr p (by simp)) (gr q (by simp)) d S
              cases e : isWi p q with
              | true =>
                rw [e] at c2
                simp [Co.pf2, Co.pf3, eqI, eqS, neII, at0, at1, itV, compGo, compF, wipeE, Pat.vars, lim, cutL, sIx, c1, c2, all1, e, on3]
              | false =>
                rw [e] at c2
                simp [Co.pf2, Co.pf3, eqI, eqS, neII, at0, at1, c2, e, on3]
            · have z : ((r.length : Int) == 3) = false := (len_eq r 3).trans (decide_eq_false hl)
              rw [sh3 hl]
              simp [Co.pf2, Co.pf3, eqI, eqS, neII, z]
          · rw [shp_U]
            by_cases hl : r.length = 4
            · obtain ⟨p, q, x, y, rfl⟩ := len4 hl
              have c1 := ih x (gr x (by simp)) (d + 1 + 1) S (by omega)
              have c3 := ih y (gr y (by simp)) (d + 1 + 1) S (by omega)
              have c2 := iswin_ok (sg := sg) t.whole t.window (gr p (by simp)) (gr q (by simp)) d S
              cases e : isWi p q with
              | true =>
                rw [e] at c2
                simp [Co.pf2, Co.pf3, eqI, eqS, neII, at0, at1, itV, compGo, compF, wipeE, Pat.vars, lim, cutL, sIx, c1, c2, c3, all2, e, on4]
              | false =>
                rw [e] at c2
                simp [Co.pf2, Co.pf3, eqI, eqS, neII, at0, at1, c2, e, on4]
            · have z : ((r.length : Int) == 4) = false := (len_eq r 4).trans (decide_eq_false hl)
              rw [sh4 hl]
              simp [Co.pf2, Co.pf3, eqI, eqS, neII, z]
          · rw [shp_O _ hw]
            simp [Co.pf2, Co.pf3, Co.pf4, eqS, neS, oth_a hw, oth_p hw, oth_np hw, oth_w hw, hw.nt, hw.until_]
        · have e : isF (n + 1) (.tup (hh :: r)) = false := by
            cases hh with
            | str w => exact absurd ⟨w, rfl⟩ hs
            | _ => rfl
          have i : isasV sg.eb hh [.str] = some false := by
            cases hh with
            | str w => exact absurd ⟨w, rfl⟩ hs
            | loc _ => cases n <;> cases gh
            | exn _ _ => cases n <;> cases gh
            | dct _ _ => cases n <;> cases gh
            | _ => rfl
          rw [e]
          have z := len_ne0 r
          simp [Co.pf0, show isasV sg.eb (.tup (hh :: r)) [.tup] = some true from rfl, i, at0, eqI, z]
end
end Pi

end
section
set_option linter.all false
set_option maxRecDepth 100000
/-! SyL: the law's own look, of any data. -/
namespace Pi
open PySem
abbrev ltrs : Str := "abcdefghijklmnopqrstuvwxyz"
theorem sub_cps (x : Str) (i j : Nat) : ∀ c ∈ (⟨x.cps.extract i j⟩ : Str).cps.toList, c ∈ x.cps.toList := by
  intro c hc
  have hc : c ∈ (x.cps.extract i j).toList := hc
  rw [Array.toList_extract] at hc
  exact List.mem_of_mem_drop (List.mem_of_mem_take (by simpa [List.extract] using hc))
theorem take_len {p : Nat → Bool} : ∀ {l : List Nat}, (∃ c ∈ l, p c = false) → ∃ a d b, l = a ++ d :: b ∧ p d = false ∧ (l.takeWhile p).length = a.length
  | [], h => by
    obtain ⟨c, hc, _⟩ := h
    cases hc
  | c :: r, h => by
    cases e : p c with
    | false => exact ⟨[], c, r, rfl, e, by rw [List.takeWhile_cons, e]; rfl⟩
    | true =>
      obtain ⟨d, hd, hp⟩ := h
      rcases List.mem_cons.mp hd with rfl | hd
      · rw [e] at hp
        cases hp
      · obtain ⟨a, q, b, h1, h2, h3⟩ := take_len (l := r) ⟨d, hd, hp⟩
        refine ⟨c :: a, q, b, by rw [h1]; rfl, h2, ?_⟩
        rw [List.takeWhile_cons, e]
        show (List.takeWhile p r).length + 1 = a.length + 1
        rw [h3]
theorem take_le {p : Nat → Bool} : ∀ {l : List Nat} {d : Nat}, p d = false → ((l ++ [d]).takeWhile p).length ≤ l.length
  | [], d, h => by
    rw [List.nil_append, List.takeWhile_cons, h]
    exact Nat.le_refl _
  | c :: r, d, h => by
    rw [List.cons_append, List.takeWhile_cons]
    cases p c with
    | false => exact Nat.zero_le _
    | true =>
      have := take_le (l := r) h
      show (List.takeWhile p (r ++ [d])).length + 1 ≤ r.length + 1
      omega
theorem strip_eq (x : Str) : (Txt.stripChars x ltrs == "") = x.cps.toList.all fun c => decide (c ∈ ltrs.cps.toList) := by
  have g : ∀ c, ltrs.cps.contains c = decide (c ∈ ltrs.cps.toList) := fun c => by
    rw [← Array.contains_toList]
    by_cases h : c ∈ ltrs.cps.toList
    · rw [decide_eq_true h]
      exact List.contains_iff_mem.mpr h
    · rw [decide_eq_false h]
      cases e : ltrs.cps.toList.contains c with
      | false => rfl
      | true => exact absurd (List.contains_iff_mem.mp e) h
  cases e : x.cps.toList.all fun c => decide (c ∈ ltrs.cps.toList) with
  | true =>
    have a : ∀ c ∈ x.cps.toList, ltrs.cps.contains c = true := fun c hc => by
      rw [g]
      exact List.all_eq_true.mp e c hc
    have z : Txt.stripChars x ltrs = "" := by
      unfold Txt.stripChars
      rw [W.stripBy_eq]
      unfold W.stripped
      simp only [if_true, take_all a]
      have e : x.cps.toList.length = x.cps.size := Array.length_toList
      rw [List.drop_length, e]
      show (⟨x.cps.extract x.cps.size (x.length - 0)⟩ : Str) = _
      rw [show x.length - 0 = x.cps.size from rfl, show x.cps.extract x.cps.size x.cps.size = #[] by simp]
      decide +kernel
    rw [z]
    exact beq_self_eq_true _
  | false =>
    have bad : ∃ c ∈ x.cps.toList, ltrs.cps.contains c = false := by
      obtain ⟨c, hc, hb⟩ := List.all_eq_false.mp e
      exact ⟨c, hc, by rw [g]; simpa using hb⟩
    obtain ⟨a, q, b, h1, h2, h3⟩ := take_len bad
    refine beq_eq_false_iff_ne.mpr fun z => ?_
    unfold Txt.stripChars at z
    rw [W.stripBy_eq] at z
    unfold W.stripped at z
    simp only [if_true, h3] at z
    have dr : x.cps.toList.drop a.length = q :: b := by rw [h1, List.drop_left]
    rw [dr, List.reverse_cons] at z
    have le := take_le (p := ltrs.cps.contains) (l := b.reverse) h2
    rw [List.length_reverse] at le
    generalize (List.takeWhile ltrs.cps.contains (b.reverse ++ [q])).length = k at z le
    have sz : x.length = a.length + (b.length + 1) := by
      show x.cps.size = _
      rw [← Array.length_toList, h1, List.length_append, List.length_cons]
    have z : (⟨x.cps.extract a.length (x.length - k)⟩ : Str) = "" := z
    have z2 := congrArg (fun s : Str => s.cps.size) z
    have e0 : (Str.ofString "").cps.size = 0 := by decide +kernel
    rw [e0] at z2
    have z2 : (x.cps.extract a.length (x.length - k)).size = 0 := z2
    rw [Array.size_extract] at z2
    have : x.cps.size = x.length := rfl
    omega
theorem strip_okS {x : Str} (hl : x.length ≤ lim) (hs : Sok x) : okS (Txt.stripChars x ltrs) = true := by
  unfold Txt.stripChars
  rw [W.stripBy_eq]
  unfold W.stripped
  simp only [if_true]
  unfold okS
  rw [Bool.and_eq_true]
  refine ⟨decide_eq_true ?_, sok_is fun c hc => hs c (sub_cps x _ _ c hc)⟩
  show (x.cps.extract _ _).size ≤ lim
  rw [Array.size_extract]
  have : x.cps.size = x.length := rfl
  omega
section
variable {sg : Sig} {Φ : Tab} {cf : String → List Val → Store → Res Val}
theorem lname_ok (h : Φ "_law_is_name" = some Co.fn__law_is_name) {n k : Nat} {v : Val} (g : goodV n v = true) (z : szV v = some k) (d : Nat) (S : Store) : callF sg Φ (d + 1) "_law_is_name" [v] S = .ok (.bl (isNm v)) S := by
  rw [call_eq h rfl]
  cases v with
  | str x =>
    have i := in_words x
    have z : (if x.length ≤ 1000 ∧ PyData.strOk x = true then some (10 * x.length + 2) else none) = some k := z
    have c : x.length ≤ 1000 ∧ PyData.strOk x = true := by
      by_cases c : x.length ≤ 1000 ∧ PyData.strOk x = true
      · exact c
      · rw [if_neg c] at z
        cases z
    have st : smV .strip x ltrs = some (.str (Txt.stripChars x ltrs)) := by
      show (if okS (Txt.stripChars x ltrs) then some (Val.str (Txt.stripChars x ltrs)) else none) = _
      rw [if_pos (strip_okS (Nat.le_trans c.1 (by decide)) (sok_of c.2))]
    have se := strip_eq x
    by_cases h3 : x ∈ wordsS
    · rw [decide_eq_true h3] at i
      simp [Co.fn__law_is_name, isasV, isaV, i, isNm, niceB, h3]
    · rw [decide_eq_false h3] at i
      by_cases h1 : 1 ≤ x.length
      · have h1' : (0 : Int) < (x.length : Int) := by omega
        have h1'' : 0 < x.length := by omega
        by_cases h2 : x.length ≤ 8
        · have h2' : (x.length : Int) < 9 := by omega
          have h2'' : x.length < 9 := by omega
          have e : isNm (.str x) = (Txt.stripChars x ltrs == "") := by
            show niceB x = _
            unfold niceB
            rw [decide_eq_true h1, decide_eq_true h2, decide_eq_false h3, se]
            rfl
          rw [e]
          simp [Co.fn__law_is_name, isasV, isaV, h1', h2', h1'', h2'', i, st, eqS]
        · have h2' : ¬ ((x.length : Int) < 9) := by omega
          have h2'' : ¬ (x.length < 9) := by omega
          simp [Co.fn__law_is_name, isasV, isaV, h1', h2', h1'', h2'', h2, i, isNm, niceB]
      · have h1' : ¬ ((0 : Int) < (x.length : Int)) := by omega
        have h1'' : ¬ (0 < x.length) := by omega
        simp [Co.fn__law_is_name, isasV, isaV, h1, h1', h1'', i, isNm, niceB]
  | non => kernel_rfl
  | bl _ => kernel_rfl
  | int _ => kernel_rfl
  | tup _ => kernel_rfl
  | lst _ => kernel_rfl
  | _ => cases n <;> cases g
theorem good_dep : ∀ (n : Nat) {v : Val}, goodV n v = true → ∃ k, depV v = some k ∧ k ≤ n := by
  intro n
  induction n with
  | zero =>
    intro v g
    cases v with
    | non => exact ⟨0, rfl, Nat.le_refl _⟩
    | bl _ => exact ⟨0, rfl, Nat.le_refl _⟩
    | int _ => exact ⟨0, rfl, Nat.le_refl _⟩
    | str _ => exact ⟨0, rfl, Nat.le_refl _⟩
    | _ => cases g
  | succ n ih =>
    intro v g
    have all : ∀ {l : List Val}, (∀ x ∈ l, goodV n x = true) → ∃ k, depVs l = some k ∧ k ≤ n := by
      intro l
      induction l with
      | nil => exact fun _ => ⟨0, rfl, Nat.zero_le _⟩
      | cons x r ih2 =>
        intro h
        obtain ⟨a, e1, h1⟩ := ih (h x (List.mem_cons_self ..))
        obtain ⟨b, e2, h2⟩ := ih2 fun y hy => h y (List.mem_cons_of_mem _ hy)
        refine ⟨max a b, ?_, by omega⟩
        show (match depV x, depVs r with
          | some a, some b => some (max a b)
          | _, _ => none) = _
        rw [e1, e2]
    cases v with
    | non => exact ⟨0, rfl, Nat.zero_le _⟩
    | bl _ => exact ⟨0, rfl, Nat.zero_le _⟩
    | int _ => exact ⟨0, rfl, Nat.zero_le _⟩
    | str _ => exact ⟨0, rfl, Nat.zero_le _⟩
    | tup l =>
      obtain ⟨k, e, h⟩ := all (good_tl g)
      exact ⟨k + 1, by show (depVs l).map (· + 1) = _; rw [e]; rfl, by omega⟩
    | lst l =>
      obtain ⟨k, e, h⟩ := all (good_tl (show goodV (n + 1) (.tup l) = true from g))
      exact ⟨k + 1, by show (depVs l).map (· + 1) = _; rw [e]; rfl, by omega⟩
    | _ => cases g
theorem good_dat {n : Nat} {v : Val} (g : goodV n v = true) (h : n ≤ 60) : datV v = true := by
  obtain ⟨k, e, hk⟩ := good_dep n g
  unfold datV
  rw [e]
  exact decide_eq_true (by omega)
theorem szs_mem : ∀ {l : List Val} {k : Nat}, szVs l = some k → ∀ x ∈ l, ∃ j, szV x = some j ∧ j + 2 ≤ k
  | [], _, _, x, hx => by cases hx
  | y :: r, k, h, x, hx => by
    have h : (match szV y, szVs r with
      | some a, some b => some (a + b + 2)
      | _, _ => none) = some k := h
    cases e1 : szV y with
    | none => rw [e1] at h; cases h
    | some a => cases e2 : szVs r with
      | none => rw [e1, e2] at h; cases h
      | some b =>
        rw [e1, e2] at h
        cases h
        rcases List.mem_cons.mp hx with rfl | hx
        · exact ⟨a, e1, by omega⟩
        · obtain ⟨j, h1, h2⟩ := szs_mem e2 x hx
          exact ⟨j, h1, by omega⟩
theorem sz_tl {l : List Val} {k : Nat} (h : szV (.tup l) = some k) : ∀ x ∈ l, ∃ j, szV x = some j := fun x hx => by
  obtain ⟨m, h1, _⟩ := Option.map_eq_some_iff.mp (show (szVs l).map (· + 3) = some k from h)
  obtain ⟨j, h2, _⟩ := szs_mem h1 x hx
  exact ⟨j, h2⟩
theorem sfA_go (w : Str) {n : Nat} (r : List Val) (g : goodV n (.tup (.str w :: r)) = true) (h6 : n ≤ 60) (l : List IS) (S : Store) (a b c d : Option Val) :
    evSs sg cf (Co.sfA :: l) [some (.tup (.str w :: r)), a, b, c, d] S = evSs sg cf l [some (.tup (.str w :: r)), a, b, c, d] S := by
  have e : cmpV .eq (.tup (.str w :: r)) (.tup []) = some false := by
    show (if datV (.tup (.str w :: r)) && datV (.tup []) then some (eqV (.tup (.str w :: r)) (.tup [])) else none) = _
    rw [good_dat g h6]
    rfl
  refine evSs_one ?_
  simp [Co.sfA, isasV, isaV, e, at0]
theorem sfB_no {w : Str} (h : cmpV .in_ (.str w) (.tup [.str "least", .str "most"]) = some false) (r : List Val) (l : List IS) (S : Store) (a b c d : Option Val) :
    evSs sg cf (Co.sfB :: l) [some (.tup (.str w :: r)), a, b, c, d] S = evSs sg cf l [some (.tup (.str w :: r)), a, b, c, d] S := by
  refine evSs_one ?_
  simp [Co.sfB, h, at0]
theorem sfCD_go {w : Str} {p q : Int} (h : dgetV Co.szK Co.szD w [.tup [.int 0, .int 0]] = some (.tup [.int p, .int q])) (r : List Val) (l : List IS) (S : Store) :
    evSs sg cf (Co.sfC :: Co.sfD :: l) [some (.tup (.str w :: r)), none, none, none, none] S = evSs sg cf l [some (.tup (.str w :: r)), some (.dct Co.szK Co.szD), some (.int p), some (.int q), none] S := by
  have hc : evS sg cf Co.sfC [some (.tup (.str w :: r)), none, none, none, none] S = .nx [some (.tup (.str w :: r)), some (.dct Co.szK Co.szD), none, none, none] S := by kernel_rfl
  have ed : Co.sfD = .asg (.tup [(.v 2), (.v 3)]) (.dget (.lv 1) (.ix (.lv 0) (.cst (.int 0))) [(.tup [(.cst (.int 0)), (.cst (.int 0))])]) := rfl
  rw [evSs_one hc]
  refine evSs_one ?_
  rw [ed]
  simp [at0, h]
theorem dg_N : dgetV Co.szK Co.szD "not" [.tup [.int 0, .int 0]] = some (.tup [.int 1, .int 1]) := by kernel_rfl
theorem dg_P (o : Bool) : dgetV Co.szK Co.szD (wP o) [.tup [.int 0, .int 0]] = some (.tup [.int 1, .int 2]) := by cases o <;> kernel_rfl
theorem dg_W (o : Bool) : dgetV Co.szK Co.szD (wW o) [.tup [.int 0, .int 0]] = some (.tup [.int 3, .int 1]) := by cases o <;> kernel_rfl
theorem dg_U : dgetV Co.szK Co.szD "until" [.tup [.int 0, .int 0]] = some (.tup [.int 3, .int 2]) := by kernel_rfl
theorem dg_O {w : Str} (h : Oth w) : dgetV Co.szK Co.szD w [.tup [.int 0, .int 0]] = some (.tup [.int 0, .int 0]) := by
  show some (((Co.szK.zip Co.szD).lookup w).getD (.tup [.int 0, .int 0])) = _
  simp only [Co.szK, Co.szD, List.zip_cons_cons, List.zip_nil_right, List.lookup_cons, List.lookup_nil, h.nt, h.both, h.either, h.always, h.sometime, h.until_]
  rfl
theorem lform_ok (hn : Φ "_law_is_name" = some Co.fn__law_is_name) (hm : Φ "_law_is_number" = some Co.fn__law_is_number) (h : Φ "_law_is_form" = some Co.fn__law_is_form) :
    ∀ (n : Nat) (v : Val), goodV n v = true → (∃ k, szV v = some k) → n ≤ 60 → ∀ (d : Nat) (S : Store), n + 2 ≤ d → callF sg Φ d "_law_is_form" [v] S = .ok (.bl (isF n v)) S := by
  intro n
  induction n with
  | zero =>
    intro v g _ _ d S hd
    obtain ⟨d, rfl⟩ : ∃ k, d = k + 1 := ⟨d - 1, by omega⟩
    rw [sf_call h]
    cases v with
    | non => kernel_rfl
    | bl _ => kernel_rfl
    | int _ => kernel_rfl
    | str _ => kernel_rfl
    | _ => cases g
  | succ n ih =>
    intro v g z h6 d S hd
    obtain ⟨d, rfl⟩ : ∃ k, d = k + 1 + 1 := ⟨d - 2, by omega⟩
    rw [sf_call h]
    cases v with
    | non => kernel_rfl
    | bl _ => kernel_rfl
    | int _ => kernel_rfl
    | str _ => kernel_rfl
    | lst _ => kernel_rfl
    | loc _ => cases g
    | exn _ _ => cases g
    | dct _ _ => cases g
    | tup l =>
      cases l with
      | nil => kernel_rfl
      | cons hh r =>
        obtain ⟨k, z⟩ := z
        have gl := good_tl g
        have zl := sz_tl z
        have gh := gl hh (List.mem_cons_self ..)
        have gr : ∀ x ∈ r, goodV n x = true := fun x hx => gl x (List.mem_cons_of_mem _ hx)
        have zr : ∀ x ∈ r, ∃ j, szV x = some j := fun x hx => zl x (List.mem_cons_of_mem _ hx)
        by_cases hs : ∃ w, hh = .str w
        · obtain ⟨w, rfl⟩ := hs
          rw [sfA_go w r g h6]
          show _ = Res.ok (Val.bl (shp (isF n) w r)) S
          rcases wcl w with ⟨u, rfl⟩ | rfl | ⟨o, rfl⟩ | ⟨o, rfl⟩ | rfl | hw
          · rw [shp_A]
            by_cases hl : r.length = 2
            · obtain ⟨x, y, rfl⟩ := len2 hl
              obtain ⟨j, zx⟩ := zr x (by simp)
              have c1 := lname_ok (sg := sg) hn (gr x (by simp)) zx d S
              have c2 := num_ok (sg := sg) hm (gr y (by simp)) (-99) 99 d S
              cases e : isNm x with
              | true =>
                rw [e] at c1
                simp [Co.sfB, at0, at1, at2, c1, c2, eqI, e, on2]
              | false =>
                rw [e] at c1
                simp [Co.sfB, at0, at1, c1, eqI, e, on2]
            · have q : ((r.length : Int) + 1 == 3) = false := beq_eq_false_iff_ne.mpr (by omega)
              rw [sh2 hl]
              simp [Co.sfB, at0, eqI, q]
          · rw [sfB_no in_aN, sfCD_go dg_N, shp_N]
            by_cases hl : r.length = 1
            · obtain ⟨x, rfl⟩ := len1 hl
              have c1 := ih x (gr x (by simp)) (zr x (by simp)) (by omega) (d + 1) S (by omega)
              simp [Co.sfE, Co.sfF, Co.sfG, eqI, neII, itV, compGo, compF, wipeE, Pat.vars, lim, cutL, sIx, c1, all1, on1]
            · have q : ((r.length : Int) + 1 == 1 + 1) = false := beq_eq_false_iff_ne.mpr (by omega)
              have q' : ((r.length : Int) + 1 == 2) = false := beq_eq_false_iff_ne.mpr (by omega)
              rw [sh1 hl]
              simp [Co.sfE, eqI, neII, q, q']
          · rw [sfB_no (in_aP o), sfCD_go (dg_P o), shp_P]
            by_cases hl : r.length = 2
            · obtain ⟨x, y, rfl⟩ := len2 hl
              have c1 := ih x (gr x (by simp)) (zr x (by simp)) (by omega) (d + 1) S (by omega)
              have c2 := ih y (gr y (by simp)) (zr y (by simp)) (by omega) (d + 1) S (by omega)
              simp [Co.sfE, Co.sfF, Co.sfG, eqI, neII, itV, compGo, compF, wipeE, Pat.vars, lim, cutL, sIx, c1, c2, all2, on2]
            · have q : ((r.length : Int) + 1 == 1 + 2) = false := beq_eq_false_iff_ne.mpr (by omega)
              have q' : ((r.length : Int) + 1 == 3) = false := beq_eq_false_iff_ne.mpr (by omega)
              rw [sh2 hl]
              simp [Co.sfE, eqI, neII, q, q']
          · rw [sfB_no (in_aW o), sfCD_go (dg_W o), shp_W]
            by_cases hl : r.length = 3
            · obtain ⟨p, q, x, rfl⟩ := len3 hl
              have c1 := ih x (gr x (by simp)) (zr x (by simp)) (by omega) (d + 1) S (by omega)
              have c2 := num_ok (sg := sg) hm (gr p (by simp)) 0 6 d S
              cases p with
              | int i =>
                have c3 := num_ok (sg := sg) hm (gr q (by simp)) i 6 d S
                cases e1 : isWh 0 6 (.int i) with
                | false =>
                  rw [e1] at c2
                  simp [Co.sfE, Co.sfF, eqI, neII, at1, at2, c2, on3, isWi, e1]
                | true =>
                  rw [e1] at c2
                  cases e2 : isWh i 6 q with
                  | false =>
                    rw [e2] at c3
                    simp [Co.sfE, Co.sfF, eqI, neII, at1, at2, c2, c3, on3, isWi, e1, e2]
                  | true =>
                    rw [e2] at c3
                    simp [Co.sfE, Co.sfF, Co.sfG, eqI, neII, at1, at2, c1, c2, c3, on3, isWi, e1, e2, itV, compGo, compF, wipeE, Pat.vars, lim, cutL, sIx, all1]
              | _ =>
                have c2 : callF sg Φ (d + 1) "_law_is_number" [_, .int 0, .int 6] S = .ok (.bl false) S := c2
                simp [Co.sfE, Co.sfF, eqI, neII, at1, at2, c2, on3, isWi]
            · have q : ((r.length : Int) + 1 == 3 + 1) = false := beq_eq_false_iff_ne.mpr (by omega)
              have q' : ((r.length : Int) + 1 == 4) = false := beq_eq_false_iff_ne.mpr (by omega)
              have q2 : ((r.length : Int) == 3) = false := beq_eq_false_iff_ne.mpr (by omega)
              rw [sh3 hl]
              simp [Co.sfE, eqI, neII, q, q', q2]
          · rw [sfB_no in_aU, sfCD_go dg_U, shp_U]
            by_cases hl : r.length = 4
            · obtain ⟨p, q, x, y, rfl⟩ := len4 hl
              have c1 := ih x (gr x (by simp)) (zr x (by simp)) (by omega) (d + 1) S (by omega)
              have c4 := ih y (gr y (by simp)) (zr y (by simp)) (by omega) (d + 1) S (by omega)
              have c2 := num_ok (sg := sg) hm (gr p (by simp)) 0 6 d S
              cases p with
              | int i =>
                have c3 := num_ok (sg := sg) hm (gr q (by simp)) i 6 d S
                cases e1 : isWh 0 6 (.int i) with
                | false =>
                  rw [e1] at c2
                  simp [Co.sfE, Co.sfF, eqI, neII, at1, at2, c2, on4, isWi, e1]
                | true =>
                  rw [e1] at c2
                  cases e2 : isWh i 6 q with
                  | false =>
                    rw [e2] at c3
                    simp [Co.sfE, Co.sfF, eqI, neII, at1, at2, c2, c3, on4, isWi, e1, e2]
                  | true =>
                    rw [e2] at c3
                    simp [Co.sfE, Co.sfF, Co.sfG, eqI, neII, at1, at2, c1, c2, c3, c4, on4, isWi, e1, e2, itV, compGo, compF, wipeE, Pat.vars, lim, cutL, sIx, all2]
              | _ =>
                have c2 : callF sg Φ (d + 1) "_law_is_number" [_, .int 0, .int 6] S = .ok (.bl false) S := c2
                simp [Co.sfE, Co.sfF, eqI, neII, at1, at2, c2, on4, isWi]
            · have q : ((r.length : Int) + 1 == 3 + 2) = false := beq_eq_false_iff_ne.mpr (by omega)
              have q' : ((r.length : Int) + 1 == 5) = false := beq_eq_false_iff_ne.mpr (by omega)
              rw [sh4 hl]
              simp [Co.sfE, eqI, neII, q, q']
          · rw [sfB_no (oth_a hw), sfCD_go (dg_O hw), shp_O _ hw]
            simp [Co.sfE, eqI]
        · have e : isF (n + 1) (.tup (hh :: r)) = false := by
            cases hh with
            | str w => exact absurd ⟨w, rfl⟩ hs
            | _ => rfl
          have i : isasV sg.eb hh [.str] = some false := by
            cases hh with
            | str w => exact absurd ⟨w, rfl⟩ hs
            | loc _ => cases n <;> cases gh
            | exn _ _ => cases n <;> cases gh
            | dct _ _ => cases n <;> cases gh
            | _ => rfl
          have e0 : cmpV .eq (.tup (hh :: r)) (.tup []) = some false := by
            show (if datV (.tup (hh :: r)) && datV (.tup []) then some (eqV (.tup (hh :: r)) (.tup [])) else none) = _
            rw [good_dat g h6]
            rfl
          rw [e]
          simp [Co.sfA, show isasV sg.eb (.tup (hh :: r)) [.tup] = some true from rfl, i, at0, e0]
end
end Pi

end
section
set_option linter.all false
set_option maxRecDepth 100000
/-! SyM: is_saying, of any data; told right. -/
namespace Pi
open PySem
namespace Co
def fn__law_told_right : Fn := ⟨1, 3, [.par [(1, false), (2, false)] [(.bi .repr [(.lv 0)]), (.call "is_saying" [(.lv 0)])],
  .ret (.and [(.isa (.lv 2) [.bool]), (.cmp .eq (.lv 2) (.call "_law_is_saying" [(.lv 0)])), (.cmp .eq (.bi .repr [(.lv 0)]) (.lv 1))])]⟩
end Co
section
variable {sg : Sig} {Φ : Tab} {cf : String → List Val → Store → Res Val}
theorem pinner_ok (h : Φ "inner_of" = some Co.fn_inner_of) (s : Sy) (d : Nat) (S : Store) : callF sg Φ (d + 1) "inner_of" [s.v] S = .ok (.lst (s.inner.map Sy.v)) S := by
  rw [call_eq h rfl]
  cases s with
  | atm u n k => cases u <;> kernel_rfl
  | nt s => kernel_rfl
  | two o a b => cases o <;> kernel_rfl
  | win o n f s => cases o <;> kernel_rfl
  | unt n f a b => kernel_rfl
def sumP : List Sy → Nat
  | [] => 0
  | s :: r => s.parts + sumP r
theorem ints_map {α : Type} (f : α → Int) : ∀ l : List α, intsV (l.map fun c => Val.int (f c)) = some (l.map f)
  | [] => rfl
  | c :: r => by
    show (intsV (r.map fun c => Val.int (f c))).map (f c :: ·) = _
    rw [ints_map f r]
    rfl
theorem parts_sum (s : Sy) : (1 : Int) + (s.inner.map fun t => (t.parts : Int)).sum = s.parts := by
  cases s <;> simp [Sy.inner, Sy.parts] <;> omega
theorem deep_max (s : Sy) : (1 : Int) + (maxI (s.inner.map fun t => (t.dep : Int))).getD 0 = s.dep := by
  cases s with
  | atm u n k => rfl
  | nt s => show (1 : Int) + s.dep = ((s.dep + 1 : Nat) : Int); omega
  | win o n f s => show (1 : Int) + s.dep = ((s.dep + 1 : Nat) : Int); omega
  | two o a b =>
    show (1 : Int) + (if (b.dep : Int) > a.dep then (b.dep : Int) else a.dep) = ((max a.dep b.dep + 1 : Nat) : Int)
    split <;> omega
  | unt n f a b =>
    show (1 : Int) + (if (b.dep : Int) > a.dep then (b.dep : Int) else a.dep) = ((max a.dep b.dep + 1 : Nat) : Int)
    split <;> omega
theorem inner_dep {s : Sy} : ∀ t ∈ s.inner, t.dep < s.dep := by
  cases s with
  | atm u n k => intro t h; cases h
  | nt s => intro t h; rcases List.mem_singleton.mp h with rfl; show t.dep < t.dep + 1; omega
  | win o n f s => intro t h; rcases List.mem_singleton.mp h with rfl; show t.dep < t.dep + 1; omega
  | two o a b =>
    intro t h
    show t.dep < max a.dep b.dep + 1
    simp only [Sy.inner, List.mem_cons, List.not_mem_nil, or_false] at h
    rcases h with rfl | rfl <;> omega
  | unt n f a b =>
    intro t h
    show t.dep < max a.dep b.dep + 1
    simp only [Sy.inner, List.mem_cons, List.not_mem_nil, or_false] at h
    rcases h with rfl | rfl <;> omega
theorem inner_len (s : Sy) : s.inner.length ≤ 2 := by cases s <;> simp [Sy.inner]
theorem pparts_ok (hi : Φ "inner_of" = some Co.fn_inner_of) (h : Φ "parts_of" = some Co.fn_parts_of) : ∀ (n : Nat) (s : Sy), s.dep ≤ n → ∀ (d : Nat) (S : Store), n < d → callF sg Φ d "parts_of" [s.v] S = .ok (.int s.parts) S := by
  intro n
  induction n with
  | zero => intro s hs; have := sy_dep0 s; omega
  | succ n ih =>
    intro s hs d S hd
    obtain ⟨d, rfl⟩ : ∃ k, d = k + 1 + 1 := ⟨d - 2, by omega⟩
    rw [call_eq h rfl]
    have i := pinner_ok (sg := sg) hi s d S
    have go := compGo_map (f := compF sg (callF sg Φ (d + 1)) (.v 1) [] (.call "parts_of" [(.lv 1)]) [some s.v, none]) (g := Sy.v) (h := fun t => Val.int (t.parts : Int)) (S := S) (l := s.inner) fun t ht => by
      have c := ih t (by have := inner_dep t ht; omega) (d + 1) S (by omega)
      simp [compF, wipeE, Pat.vars, c]
    have il : (s.inner.map fun t => Val.int (t.parts : Int)).length ≤ lim := by
      rw [List.length_map]
      exact Nat.le_trans (inner_len s) (by decide)
    have e : biV S .sumS [.lst (s.inner.map fun t => Val.int (t.parts : Int)), .int 1] = some (.int s.parts) := by
      show (intsV (s.inner.map fun t => Val.int (t.parts : Int))).map (fun ns => Val.int (1 + ns.sum)) = _
      rw [ints_map, Option.map_some, parts_sum]
    show finO (evSs sg (callF sg Φ (d + 1)) [.ret (.bi .sumS [(.comp 0 [(.call "inner_of" [(.lv 0)])] (.v 1) [] (.call "parts_of" [(.lv 1)])), (.cst (.int 1))])] [some s.v, none] S) = _
    simp only [evSs, evS_q11, evE_q18, evEs_q0, evEs_q1, evE_cmp, evE_q16, evE_q0, evE_q1, List.getElem?_cons_zero, Res.bind_ok, Res.on_ok, Res.of_some, i, itV, go, if_pos il, e, Out.then_rt]
    rfl
theorem pdeep_ok (hi : Φ "inner_of" = some Co.fn_inner_of) (h : Φ "deep_of" = some Co.fn_deep_of) : ∀ (n : Nat) (s : Sy), s.dep ≤ n → ∀ (d : Nat) (S : Store), n < d → callF sg Φ d "deep_of" [s.v] S = .ok (.int s.dep) S := by
  intro n
  induction n with
  | zero => intro s hs; have := sy_dep0 s; omega
  | succ n ih =>
    intro s hs d S hd
    obtain ⟨d, rfl⟩ : ∃ k, d = k + 1 + 1 := ⟨d - 2, by omega⟩
    rw [call_eq h rfl]
    have i := pinner_ok (sg := sg) hi s d S
    have go := compGo_map (f := compF sg (callF sg Φ (d + 1)) (.v 1) [] (.call "deep_of" [(.lv 1)]) [some s.v, none]) (g := Sy.v) (h := fun t => Val.int (t.dep : Int)) (S := S) (l := s.inner) fun t ht => by
      have c := ih t (by have := inner_dep t ht; omega) (d + 1) S (by omega)
      simp [compF, wipeE, Pat.vars, c]
    have il : (s.inner.map fun t => Val.int (t.dep : Int)).length ≤ lim := by
      rw [List.length_map]
      exact Nat.le_trans (inner_len s) (by decide)
    have e : biV S .maxD [.lst (s.inner.map fun t => Val.int (t.dep : Int)), .int 0] = some (.int ((maxI (s.inner.map fun t => (t.dep : Int))).getD 0)) := by
      show (intsV (s.inner.map fun t => Val.int (t.dep : Int))).map (fun ns => Val.int ((maxI ns).getD 0)) = _
      rw [ints_map, Option.map_some]
    have e2 := deep_max s
    show finO (evSs sg (callF sg Φ (d + 1)) [.ret (.bin .add (.cst (.int 1)) (.bi .maxD [(.comp 0 [(.call "inner_of" [(.lv 0)])] (.v 1) [] (.call "deep_of" [(.lv 1)])), (.cst (.int 0))]))] [some s.v, none] S) = _
    simp only [evSs, evS_q11, evE_q3, evE_q18, evEs_q0, evEs_q1, evE_cmp, evE_q16, evE_q0, evE_q1, List.getElem?_cons_zero, Res.bind_ok, Res.on_ok, Res.of_some, i, itV, go, if_pos il, e, bv_addI, e2, Out.then_rt]
    rfl
/-- both looks agree -/
theorem say_ok (t : SayT Φ) (p : ProgT Φ) {n : Nat} {v : Val} (g : goodV n v = true) (z : ∃ k, szV v = some k) (h6 : n ≤ 60) {d : Nat} (hd : n + 4 ≤ d) (S : Store) :
    ∃ b, callF sg Φ d "is_saying" [v] S = .ok (.bl b) S ∧ callF sg Φ d "_law_is_saying" [v] S = .ok (.bl b) S ∧ ∀ s : Sy, v = s.v → s.Ok → s.dep ≤ n → b = (decide (s.parts < 10) && decide (s.dep < 6)) := by
  obtain ⟨d, rfl⟩ : ∃ k, d = k + 1 := ⟨d - 1, by omega⟩
  have c1 := pform_ok (sg := sg) p n v g d S (by omega)
  have c2 := lform_ok (sg := sg) t.name t.num t.form n v g z h6 d S (by omega)
  cases e : isF n v with
  | false =>
    rw [e] at c1 c2
    refine ⟨false, ?_, ?_, fun s hs ok hn => ?_⟩
    · rw [call_eq p.saying rfl]
      simp [Co.fn_is_saying, c1]
    · rw [call_eq t.saying rfl]
      simp [Co.fn__law_is_saying, c2]
    · subst hs
      rw [isF_sy s ok hn] at e
      cases e
  | true =>
    rw [e] at c1
    obtain ⟨s, rfl, ok, hs⟩ := isF_ok n v e
    have c3 := pparts_ok (sg := sg) p.inner p.parts n s hs d S (by omega)
    have c4 := pdeep_ok (sg := sg) p.inner p.deep n s hs d S (by omega)
    refine ⟨decide (s.parts < 10) && decide (s.dep < 6), ?_, issay_ok (sg := sg) t ok (by omega) S (by omega), fun s' hs' _ _ => by rw [sy_inj _ _ hs']⟩
    rw [call_eq p.saying rfl]
    by_cases q : s.parts < 10
    · have q' : (s.parts : Int) ≤ 9 := by omega
      by_cases q2 : s.dep < 6
      · have q2' : (s.dep : Int) ≤ 5 := by omega
        simp [Co.fn_is_saying, c1, c3, c4, q, q', q2, q2']
      · have q2' : ¬ ((s.dep : Int) ≤ 5) := by omega
        simp [Co.fn_is_saying, c1, c3, c4, q, q', q2, q2']
    · have q' : ¬ ((s.parts : Int) ≤ 9) := by omega
      simp [Co.fn_is_saying, c1, c3, q, q']
theorem told_ok (t : SayT Φ) (p : ProgT Φ) (h : Φ "_law_told_right" = some Co.fn__law_told_right) {n k : Nat} {v : Val} (g : goodV n v = true) (z : szV v = some k) (hk : k ≤ 16777216) (h6 : n ≤ 60) {d : Nat} (hd : n + 5 ≤ d) (S : Store) :
    callF sg Φ d "_law_told_right" [v] S = .ok (.bl true) S := by
  obtain ⟨d, rfl⟩ : ∃ k, d = k + 1 := ⟨d - 1, by omega⟩
  rw [call_eq h rfl]
  obtain ⟨b, c1, c2, _⟩ := say_ok (sg := sg) t p g ⟨k, z⟩ h6 (d := d) (by omega) S
  have r : biV S .repr [v] = some (.str (toD v).shown) := repr_sz z hk (good_dat g h6)
  have e1 : cmpV .eq (.bl b) (.bl b) = some true := by cases b <;> rfl
  have e2 : ∀ x : Str, cmpV .eq (.str x) (.str x) = some true := fun x => by
    show some (x == x) = _
    rw [beq_self_eq_true]
  simp [Co.fn__law_told_right, parE, r, c1, c2, e1, e2, isasV, isaV]
end
end Pi

end
section
set_option linter.all false
set_option maxRecDepth 100000
/-! DtA: how great data is whose texts are plain signs. -/
namespace Pi
open PySem
def ascB (x : Str) : Bool := x.cps.toList.all fun c => decide (c < 128)
theorem asc_sok {x : Str} (h : ascB x = true) : PyData.strOk x = true := sok_is fun c hc => Nat.lt_trans (of_decide_eq_true (List.all_eq_true.mp h c hc)) (by decide)
def sumO : List (Option Nat) → Option Nat
  | [] => some 0
  | a :: r => match a, sumO r with
    | some a, some b => some (a + b + 2)
    | _, _ => none
/-- data of n levels, its ints to B: how long its repr is at most -/
def dtV (B : Nat) : Nat → Val → Option Nat
  | _, .non => some 8
  | _, .bl _ => some 8
  | _, .int i => if i.natAbs ≤ B then some 102 else none
  | _, .str x => if x.length ≤ 1000 ∧ ascB x = true then some (10 * x.length + 2) else none
  | n + 1, .tup l => (sumO (l.map (dtV B n))).map (· + 3)
  | n + 1, .lst l => (sumO (l.map (dtV B n))).map (· + 3)
  | _, _ => none
def wt (f : Val → Option Nat) (x : Val) : Nat := (f x).getD 0 + 2
def tot (f : Val → Option Nat) (l : List Val) : Nat := (l.map (wt f)).sum
theorem sumO_iff (f : Val → Option Nat) : ∀ (l : List Val) (k : Nat), sumO (l.map f) = some k ↔ (∀ x ∈ l, (f x).isSome = true) ∧ k = tot f l
  | [], k => ⟨fun h => ⟨(fun _ h => (by cases h)), by cases h; rfl⟩, fun h => by rw [h.2]; rfl⟩
  | x :: r, k => by
    have ih := sumO_iff f r
    show (match f x, sumO (r.map f) with
      | some a, some b => some (a + b + 2)
      | _, _ => none) = some k ↔ _
    have tc : tot f (x :: r) = wt f x + tot f r := by
      unfold tot
      rw [List.map_cons, List.sum_cons]
    rw [tc]
    cases e1 : f x with
    | none =>
      refine ⟨fun h => (by cases h), fun h => ?_⟩
      have := h.1 x (List.mem_cons_self ..)
      rw [e1] at this
      cases this
    | some a =>
      have wx : wt f x = a + 2 := by
        unfold wt
        rw [e1]
        rfl
      rw [wx]
      cases e2 : sumO (r.map f) with
      | none =>
        refine ⟨fun h => (by cases h), fun h => ?_⟩
        have := (ih (tot f r)).mpr ⟨fun y hy => h.1 y (List.mem_cons_of_mem _ hy), rfl⟩
        rw [e2] at this
        cases this
      | some b =>
        obtain ⟨h1, h2⟩ := (ih b).mp e2
        refine ⟨fun h => ?_, fun h => ?_⟩
        · cases h
          refine ⟨fun y hy => ?_, by omega⟩
          rcases List.mem_cons.mp hy with rfl | hy
          · rw [e1]
            rfl
          · exact h1 y hy
        · rw [h.2, h2]
          show some (a + tot f r + 2) = _
          congr 1
          omega
theorem tot_app (f : Val → Option Nat) (a b : List Val) : tot f (a ++ b) = tot f a + tot f b := by
  unfold tot
  rw [List.map_append, List.sum_append]
theorem tot_len (f : Val → Option Nat) : ∀ l : List Val, 2 * l.length ≤ tot f l
  | [] => Nat.le_refl _
  | x :: r => by
    have := tot_len f r
    show 2 * (r.length + 1) ≤ tot f ([x] ++ r)
    rw [tot_app]
    have : tot f [x] = wt f x + 0 := by
      unfold tot
      rw [List.map_cons, List.sum_cons]
      rfl
    unfold wt at this
    omega
theorem tot_one (f : Val → Option Nat) (x : Val) : tot f [x] = wt f x := by
  unfold tot
  rw [List.map_cons, List.sum_cons]
  show wt f x + 0 = _
  omega
theorem tot_take (f : Val → Option Nat) (l : List Val) (k : Nat) : tot f (l.take k) ≤ tot f l := by
  have := tot_app f (l.take k) (l.drop k)
  rw [List.take_append_drop] at this
  omega
theorem tot_drop (f : Val → Option Nat) (l : List Val) (k : Nat) : tot f (l.drop k) ≤ tot f l := by
  have := tot_app f (l.take k) (l.drop k)
  rw [List.take_append_drop] at this
  omega
theorem tot_split (f : Val → Option Nat) (l : List Val) (k : Nat) : tot f l = tot f (l.take k) + tot f (l.drop k) := by
  rw [← tot_app, List.take_append_drop]
theorem tot_mem (f : Val → Option Nat) : ∀ {l : List Val} {x : Val}, x ∈ l → wt f x ≤ tot f l
  | y :: r, x, h => by
    have : tot f (y :: r) = wt f y + tot f r := by
      unfold tot
      rw [List.map_cons, List.sum_cons]
    rcases List.mem_cons.mp h with rfl | h
    · omega
    · have := tot_mem f h
      omega
theorem tot_set (f : Val → Option Nat) (y : Val) : ∀ (l : List Val) (i : Nat), tot f (l.set i y) ≤ tot f l + wt f y
  | [], i => Nat.zero_le _
  | x :: r, 0 => by
    have e : ∀ z, tot f (z :: r) = wt f z + tot f r := fun z => by
      unfold tot
      rw [List.map_cons, List.sum_cons]
    show tot f (y :: r) ≤ _
    rw [e, e]
    omega
  | x :: r, i + 1 => by
    have ih := tot_set f y r i
    have e : ∀ z, tot f (x :: z) = wt f x + tot f z := fun z => by
      unfold tot
      rw [List.map_cons, List.sum_cons]
    show tot f (x :: r.set i y) ≤ _
    rw [e, e]
    omega
theorem mem_set {l : List Val} {i : Nat} {y x : Val} (h : x ∈ l.set i y) : x ∈ l ∨ x = y := by
  rcases List.mem_or_eq_of_mem_set h with h | h
  · exact .inl h
  · exact .inr h
/-- .. fits -/
def Dt (B n K : Nat) (v : Val) : Prop := ∃ k, dtV B n v = some k ∧ k ≤ K
def mk (b : Bool) (l : List Val) : Val := if b then .lst l else .tup l
structure Dts (B n K : Nat) (l : List Val) : Prop where
  a : ∀ x ∈ l, (dtV B n x).isSome = true
  t : tot (dtV B n) l ≤ K
theorem dt_mk {B n K : Nat} {b : Bool} {l : List Val} : Dt B (n + 1) (K + 3) (mk b l) ↔ Dts B n K l := by
  have e : dtV B (n + 1) (mk b l) = (sumO (l.map (dtV B n))).map (· + 3) := by cases b <;> rfl
  unfold Dt
  rw [e]
  constructor
  · rintro ⟨k, h, hk⟩
    obtain ⟨j, h1, rfl⟩ := Option.map_eq_some_iff.mp h
    obtain ⟨h2, rfl⟩ := (sumO_iff _ _ _).mp h1
    exact ⟨h2, by omega⟩
  · intro h
    refine ⟨tot (dtV B n) l + 3, ?_, by have := h.t; omega⟩
    rw [(sumO_iff (dtV B n) l _).mpr ⟨h.a, rfl⟩]
    rfl
theorem dt_ge {B n K : Nat} {b : Bool} {l : List Val} (h : Dt B (n + 1) K (mk b l)) : 3 ≤ K ∧ Dts B n (K - 3) l := by
  obtain ⟨k, e, hk⟩ := h
  have e0 : dtV B (n + 1) (mk b l) = (sumO (l.map (dtV B n))).map (· + 3) := by cases b <;> rfl
  have e1 := e
  rw [e0] at e1
  obtain ⟨j, _, rfl⟩ := Option.map_eq_some_iff.mp e1
  refine ⟨by omega, ?_⟩
  refine (dt_mk (b := b)).mp ?_
  exact ⟨j + 3, e, by omega⟩
theorem Dt.up {B n K K' : Nat} {v : Val} (h : Dt B n K v) (hk : K ≤ K') : Dt B n K' v := by
  obtain ⟨k, e, h1⟩ := h
  exact ⟨k, e, by omega⟩
theorem dtV_mono {B B' : Nat} (hb : B ≤ B') : ∀ (n m : Nat) (v : Val) (k : Nat), n ≤ m → dtV B n v = some k → dtV B' m v = some k
  | n, m, .non, k, _, h => by cases n <;> cases m <;> exact h
  | n, m, .bl _, k, _, h => by cases n <;> cases m <;> exact h
  | n, m, .int i, k, _, h => by
    have h : (if i.natAbs ≤ B then some 102 else none) = some k := by cases n <;> exact h
    have g : dtV B' m (.int i) = (if i.natAbs ≤ B' then some 102 else none) := by cases m <;> rfl
    rw [g]
    split at h
    · rw [if_pos (by omega)]
      exact h
    · cases h
  | n, m, .str x, k, _, h => by
    have h : (if x.length ≤ 1000 ∧ ascB x = true then some (10 * x.length + 2) else none) = some k := by cases n <;> exact h
    cases m <;> exact h
  | 0, m, .tup _, k, _, h => by cases h
  | 0, m, .lst _, k, _, h => by cases h
  | n + 1, 0, .tup _, k, hn, h => by omega
  | n + 1, 0, .lst _, k, hn, h => by omega
  | n + 1, m + 1, .tup l, k, hn, h => by
    obtain ⟨j, h1, rfl⟩ := Option.map_eq_some_iff.mp (show (sumO (l.map (dtV B n))).map (· + 3) = some k from h)
    have := sumO_mono hb n m (by omega) h1
    show (sumO (l.map (dtV B' m))).map (· + 3) = _
    rw [this]
    rfl
  | n + 1, m + 1, .lst l, k, hn, h => by
    obtain ⟨j, h1, rfl⟩ := Option.map_eq_some_iff.mp (show (sumO (l.map (dtV B n))).map (· + 3) = some k from h)
    have := sumO_mono hb n m (by omega) h1
    show (sumO (l.map (dtV B' m))).map (· + 3) = _
    rw [this]
    rfl
  | n, m, .loc _, k, _, h => by cases n <;> cases h
  | n, m, .exn _ _, k, _, h => by cases n <;> cases h
  | n, m, .dct _ _, k, _, h => by cases n <;> cases h
where sumO_mono {B B' : Nat} (hb : B ≤ B') (n m : Nat) (hn : n ≤ m) : ∀ {l : List Val} {k : Nat}, sumO (l.map (dtV B n)) = some k → sumO (l.map (dtV B' m)) = some k
  | [], k, h => h
  | x :: r, k, h => by
    have h : (match dtV B n x, sumO (r.map (dtV B n)) with
      | some a, some b => some (a + b + 2)
      | _, _ => none) = some k := h
    cases e1 : dtV B n x with
    | none => rw [e1] at h; cases h
    | some a => cases e2 : sumO (r.map (dtV B n)) with
      | none => rw [e1, e2] at h; cases h
      | some b =>
        rw [e1, e2] at h
        have i1 := dtV_mono hb n m x a hn e1
        have i2 := sumO_mono hb n m hn e2
        show (match dtV B' m x, sumO (r.map (dtV B' m)) with
          | some a, some b => some (a + b + 2)
          | _, _ => none) = some k
        rw [i1, i2]
        exact h
theorem dt_good (B : Nat) : ∀ (n : Nat) {v : Val} {k : Nat}, dtV B n v = some k → k ≤ 16777216 → goodV n v = true := by
  intro n
  induction n with
  | zero =>
    intro v k h _
    cases v <;> first | rfl | cases h
  | succ n ih =>
    have all : ∀ {l : List Val} {k : Nat}, sumO (l.map (dtV B n)) = some k → k ≤ 16777216 → (decide (l.length ≤ lim) && l.all (goodV n)) = true := fun {l k} h hk => by
      obtain ⟨a, e⟩ := (sumO_iff _ _ _).mp h
      have := tot_len (dtV B n) l
      rw [Bool.and_eq_true, List.all_eq_true]
      refine ⟨decide_eq_true (by show _ ≤ 16777216; omega), fun x hx => ?_⟩
      obtain ⟨j, e1⟩ := Option.isSome_iff_exists.mp (a x hx)
      have w := tot_mem (dtV B n) hx
      unfold wt at w
      rw [e1] at w
      have w : j + 2 ≤ tot (dtV B n) l := w
      exact ih e1 (by omega)
    intro v k h hk
    cases v with
    | tup l =>
      obtain ⟨j, h1, rfl⟩ := Option.map_eq_some_iff.mp (show (sumO (l.map (dtV B n))).map (· + 3) = some k from h)
      exact all h1 (by omega)
    | lst l =>
      obtain ⟨j, h1, rfl⟩ := Option.map_eq_some_iff.mp (show (sumO (l.map (dtV B n))).map (· + 3) = some k from h)
      exact all h1 (by omega)
    | _ => first | rfl | cases h
theorem dt_sz {B : Nat} (hB : B < 10 ^ 100) : ∀ (n : Nat) {v : Val} {k : Nat}, dtV B n v = some k → szV v = some k := by
  have sc : ∀ (n : Nat) (i : Int) (k : Nat), dtV B n (.int i) = some k → szV (.int i) = some k := fun n i k h => by
    have h : (if i.natAbs ≤ B then some 102 else none) = some k := by cases n <;> exact h
    split at h
    · rename_i c
      rw [int_sz (Nat.lt_of_le_of_lt c hB)]
      exact h
    · cases h
  have sx : ∀ (n : Nat) (x : Str) (k : Nat), dtV B n (.str x) = some k → szV (.str x) = some k := fun n x k h => by
    have h : (if x.length ≤ 1000 ∧ ascB x = true then some (10 * x.length + 2) else none) = some k := by cases n <;> exact h
    split at h
    · rename_i c
      have g : szV (.str x) = (if x.length ≤ 1000 ∧ PyData.strOk x = true then some (10 * x.length + 2) else none) := by unfold szV; rfl
      rw [g, if_pos ⟨c.1, asc_sok c.2⟩]
      exact h
    · cases h
  intro n
  induction n with
  | zero =>
    intro v k h
    cases v with
    | int i => exact sc 0 i k h
    | non => exact h
    | bl _ => exact h
    | str x => exact sx 0 x k h
    | _ => cases h
  | succ n ih =>
    have all : ∀ {l : List Val} {k : Nat}, sumO (l.map (dtV B n)) = some k → szVs l = some k := by
      intro l
      induction l with
      | nil => intro k h; exact h
      | cons x r ih2 =>
        intro k h
        have h : (match dtV B n x, sumO (r.map (dtV B n)) with
          | some a, some b => some (a + b + 2)
          | _, _ => none) = some k := h
        cases e1 : dtV B n x with
        | none => rw [e1] at h; cases h
        | some a => cases e2 : sumO (r.map (dtV B n)) with
          | none => rw [e1, e2] at h; cases h
          | some b =>
            rw [e1, e2] at h
            cases h
            exact szs_cons (ih e1) (ih2 e2)
    intro v k h
    cases v with
    | int i => exact sc (n + 1) i k h
    | non => exact h
    | bl _ => exact h
    | str x => exact sx (n + 1) x k h
    | tup l =>
      obtain ⟨j, h1, rfl⟩ := Option.map_eq_some_iff.mp (show (sumO (l.map (dtV B n))).map (· + 3) = some k from h)
      exact tup_sz (all h1)
    | lst l =>
      obtain ⟨j, h1, rfl⟩ := Option.map_eq_some_iff.mp (show (sumO (l.map (dtV B n))).map (· + 3) = some k from h)
      exact lst_sz (all h1)
    | _ => cases h
theorem dts_iff {B n K : Nat} {l : List Val} : Dts B n K l ↔ (∀ x ∈ l, (dtV B n x).isSome = true) ∧ tot (dtV B n) l ≤ K := ⟨fun h => ⟨h.a, h.t⟩, fun h => ⟨h.1, h.2⟩⟩
theorem Dts.get {B n K : Nat} {l : List Val} (h : Dts B n K l) {x : Val} (hx : x ∈ l) : Dt B n K x := by
  obtain ⟨j, e⟩ := Option.isSome_iff_exists.mp (h.a x hx)
  have w := tot_mem (dtV B n) hx
  unfold wt at w
  rw [e] at w
  have w : j + 2 ≤ tot (dtV B n) l := w
  exact ⟨j, e, by have := h.t; omega⟩
theorem wt_dt {B n K : Nat} {x : Val} (h : Dt B n K x) : wt (dtV B n) x ≤ K + 2 ∧ (dtV B n x).isSome = true := by
  obtain ⟨j, e, hj⟩ := h
  unfold wt
  rw [e]
  exact ⟨by show j + 2 ≤ K + 2; omega, rfl⟩
theorem Dts.del {B n K : Nat} {l : List Val} (h : Dts B n K l) (i : Nat) : Dts B n K (l.take i ++ l.drop (i + 1)) := by
  refine ⟨fun x hx => ?_, ?_⟩
  · rcases List.mem_append.mp hx with hx | hx
    · exact h.a x (List.mem_of_mem_take hx)
    · exact h.a x (List.mem_of_mem_drop hx)
  · rw [tot_app]
    have e := tot_split (dtV B n) l i
    have d : tot (dtV B n) (l.drop (i + 1)) ≤ tot (dtV B n) (l.drop i) := by
      rw [← List.drop_drop]
      exact tot_drop _ _ _
    have := h.t
    omega
theorem Dts.ins {B n K J : Nat} {l : List Val} (h : Dts B n K l) (i : Nat) {y : Val} (hy : Dt B n J y) : Dts B n (K + J + 2) (l.take i ++ [y] ++ l.drop i) := by
  obtain ⟨w, q⟩ := wt_dt hy
  refine ⟨fun x hx => ?_, ?_⟩
  · rcases List.mem_append.mp hx with hx | hx
    · rcases List.mem_append.mp hx with hx | hx
      · exact h.a x (List.mem_of_mem_take hx)
      · rw [List.mem_singleton.mp hx]
        exact q
    · exact h.a x (List.mem_of_mem_drop hx)
  · rw [tot_app, tot_app, tot_one]
    have e := tot_split (dtV B n) l i
    have := h.t
    omega
theorem Dts.set {B n K J : Nat} {l : List Val} (h : Dts B n K l) (i : Nat) {y : Val} (hy : Dt B n J y) : Dts B n (K + J + 2) (l.set i y) := by
  obtain ⟨w, q⟩ := wt_dt hy
  refine ⟨fun x hx => ?_, ?_⟩
  · rcases mem_set hx with hx | rfl
    · exact h.a x hx
    · exact q
  · have e := tot_set (dtV B n) y l i
    have := h.t
    omega
theorem Dts.up {B B' n m K K' : Nat} {l : List Val} (h : Dts B n K l) (hb : B ≤ B') (hn : n ≤ m) (hk : K ≤ K') : Dts B' m K' l := by
  have e := (sumO_iff (dtV B n) l _).mpr ⟨h.a, rfl⟩
  have e2 := dtV_mono.sumO_mono hb n m hn e
  obtain ⟨a, b⟩ := (sumO_iff _ _ _).mp e2
  exact ⟨a, by have := h.t; omega⟩
theorem Dt.mono {B B' n m K K' : Nat} {v : Val} (h : Dt B n K v) (hb : B ≤ B') (hn : n ≤ m) (hk : K ≤ K') : Dt B' m K' v := by
  obtain ⟨k, e, h1⟩ := h
  exact ⟨k, dtV_mono hb n m v k hn e, by omega⟩
theorem dts_nil {B n : Nat} : Dts B n 0 [] := ⟨fun x hx => (by cases hx), Nat.le_refl _⟩
theorem dts_cons {B n K J : Nat} {x : Val} {r : List Val} (h : Dt B n K x) (h2 : Dts B n J r) : Dts B n (K + J + 2) (x :: r) := by
  obtain ⟨w, q⟩ := wt_dt h
  refine ⟨fun y hy => ?_, ?_⟩
  · rcases List.mem_cons.mp hy with rfl | hy
    · exact q
    · exact h2.a y hy
  · have e : tot (dtV B n) (x :: r) = wt (dtV B n) x + tot (dtV B n) r := by
      unfold tot
      rw [List.map_cons, List.sum_cons]
    have := h2.t
    omega
theorem Dts.app {B n K J : Nat} {l r : List Val} (h : Dts B n K l) (h2 : Dts B n J r) : Dts B n (K + J) (l ++ r) := by
  refine ⟨fun y hy => ?_, ?_⟩
  · rcases List.mem_append.mp hy with hy | hy
    · exact h.a y hy
    · exact h2.a y hy
  · rw [tot_app]
    have := h.t
    have := h2.t
    omega
theorem Dts.take {B n K : Nat} {l : List Val} (h : Dts B n K l) (k : Nat) : Dts B n K (l.take k) := ⟨fun x hx => h.a x (List.mem_of_mem_take hx), Nat.le_trans (tot_take _ _ _) h.t⟩
theorem Dts.drop {B n K : Nat} {l : List Val} (h : Dts B n K l) (k : Nat) : Dts B n K (l.drop k) := ⟨fun x hx => h.a x (List.mem_of_mem_drop hx), Nat.le_trans (tot_drop _ _ _) h.t⟩
theorem dts_map {B n K : Nat} {α : Type} {f : α → Val} : ∀ {l : List α}, (∀ x ∈ l, Dt B n K (f x)) → Dts B n ((K + 2) * l.length) (l.map f)
  | [], _ => ⟨fun x hx => (by cases hx), Nat.zero_le _⟩
  | x :: r, h => by
    have a := dts_cons (h x (List.mem_cons_self ..)) (dts_map (l := r) fun y hy => h y (List.mem_cons_of_mem _ hy))
    refine ⟨a.a, ?_⟩
    have := a.t
    rw [List.length_cons, Nat.mul_succ]
    show tot (dtV B n) (f x :: r.map f) ≤ _
    omega
theorem dt_int {B n : Nat} {i : Int} (h : i.natAbs ≤ B) : Dt B n 102 (.int i) := by
  refine ⟨102, ?_, Nat.le_refl _⟩
  cases n <;> exact if_pos h
theorem dt_bl {B n : Nat} {b : Bool} : Dt B n 8 (.bl b) := by
  refine ⟨8, ?_, Nat.le_refl _⟩
  cases n <;> rfl
theorem dt_non {B n : Nat} : Dt B n 8 .non := by
  refine ⟨8, ?_, Nat.le_refl _⟩
  cases n <;> rfl
theorem dt_strL {B n : Nat} {x : Str} (h : x.length ≤ 1000) (h2 : ascB x = true) : Dt B n (10 * x.length + 2) (.str x) := by
  refine ⟨10 * x.length + 2, ?_, Nat.le_refl _⟩
  cases n <;> exact if_pos ⟨h, h2⟩
theorem str_dt {B n K : Nat} {x : Str} (h : Dt B n K (.str x)) : 10 * x.length + 2 ≤ K ∧ x.length ≤ 1000 ∧ ascB x = true := by
  obtain ⟨k, e, hk⟩ := h
  have e : (if x.length ≤ 1000 ∧ ascB x = true then some (10 * x.length + 2) else none) = some k := by cases n <;> exact e
  split at e
  · rename_i c
    cases e
    exact ⟨hk, c⟩
  · cases e
theorem int_dt {B n K : Nat} {i : Int} (h : Dt B n K (.int i)) : i.natAbs ≤ B := by
  obtain ⟨k, e, hk⟩ := h
  have e : (if i.natAbs ≤ B then some 102 else none) = some k := by cases n <;> exact e
  split at e
  · assumption
  · cases e
theorem asc_app {a b : Str} (ha : ascB a = true) (hb : ascB b = true) : ascB (a ++ b) = true := by
  unfold ascB at *
  rw [app_cps, List.all_append, ha, hb]
  rfl
theorem asc_sub {a b : Str} (ha : ascB a = true) (h : ∀ c ∈ b.cps.toList, c ∈ a.cps.toList) : ascB b = true := by
  unfold ascB at *
  rw [List.all_eq_true] at *
  exact fun c hc => ha c (h c hc)
theorem asc_int (i : Int) : ascB (Str.ofString (toString i)) = true := by
  unfold ascB
  rw [Str.ofString_eq_toList, List.all_eq_true]
  intro c hc
  have hc : c ∈ (toString i).toList.map Char.toNat := hc
  obtain ⟨d, hd, rfl⟩ := List.mem_map.mp hc
  exact decide_eq_true (int_ascii i d hd)
theorem dt_istr {B n : Nat} {i : Int} (h : i.natAbs < 10 ^ 100) : Dt B n 2000 (.str (Str.ofString (toString i))) := by
  have l : (Str.ofString (toString i)).length ≤ 101 := by
    rw [lit_len]
    exact int_text_length_le10 (k := 100) (by omega) h
  exact (dt_strL (by omega) (asc_int i)).up (by omega)
theorem log_ok {i : Int} (h : i.natAbs < 10 ^ 100) : i.natAbs.log2 < 1920 := by
  by_cases z : i.natAbs = 0
  · rw [z]
    decide
  · exact (Nat.log2_lt z).mpr (Nat.lt_trans h (by decide +kernel))
/-- upper of plain signs -/
theorem up_asc : ∀ l : List Nat, (∀ c ∈ l, c < 128) → Txt.upper ⟨l.toArray⟩ = ⟨(l.map fun c => if 97 ≤ c ∧ c ≤ 122 then c - 32 else c).toArray⟩
  | [], _ => by decide +kernel
  | c :: r, h => by
    have ih := up_asc r fun d hd => h d (List.mem_cons_of_mem _ hd)
    have e : (⟨(c :: r).toArray⟩ : Str) = (⟨#[c]⟩ : Str) ++ (⟨r.toArray⟩ : Str) := by
      refine PySem.Str.ext' ?_
      show (c :: r).toArray = #[c] ++ r.toArray
      simp
    rw [e, W.KOpn.upper_app, W.KOpn.upper_one (h c (List.mem_cons_self ..)), ih]
    refine PySem.Str.ext' ?_
    show #[_] ++ (r.map _).toArray = _
    simp
theorem up_of {x : Str} (h : ascB x = true) : (Txt.upper x).length = x.length ∧ ascB (Txt.upper x) = true := by
  have e : x = ⟨x.cps.toList.toArray⟩ := by simp
  have a : ∀ c ∈ x.cps.toList, c < 128 := fun c hc => of_decide_eq_true (List.all_eq_true.mp h c hc)
  have u := up_asc _ a
  rw [← e] at u
  rw [u]
  constructor
  · show (List.toArray _).size = x.cps.size
    simp
  · unfold ascB
    rw [List.all_eq_true]
    intro c hc
    have hc : c ∈ x.cps.toList.map fun c => if 97 ≤ c ∧ c ≤ 122 then c - 32 else c := hc
    obtain ⟨d, hd, rfl⟩ := List.mem_map.mp hc
    have := a d hd
    refine decide_eq_true ?_
    split <;> omega
theorem mk_isa (eb : _) (b : Bool) (l : List Val) : isasV eb (mk b l) [.lst, .tup] = some true := by cases b <;> rfl
theorem mk_ist (eb : _) (b : Bool) (l : List Val) : isasV eb (mk b l) [.tup] = some (!b) := by cases b <;> rfl
theorem mk_isl (eb : _) (b : Bool) (l : List Val) : isasV eb (mk b l) [.lst] = some b := by cases b <;> rfl
theorem mk_int (eb : _) (b : Bool) (l : List Val) : isasV eb (mk b l) [.int] = some false := by cases b <;> rfl
theorem mk_len (S : Store) (b : Bool) (l : List Val) : biV S .len [mk b l] = some (.int l.length) := by cases b <;> rfl
theorem mk_list (S : Store) (b : Bool) (l : List Val) : biV S .list [mk b l] = some (.lst l) := by cases b <;> rfl
theorem dt_tup {B n K : Nat} {l : List Val} (h : Dts B n K l) : Dt B (n + 1) (K + 3) (.tup l) := (dt_mk (b := false)).mpr h
theorem dt_lst {B n K : Nat} {l : List Val} (h : Dts B n K l) : Dt B (n + 1) (K + 3) (.lst l) := (dt_mk (b := true)).mpr h
theorem dt_len {B N K : Nat} {l : List Val} (h : Dts B N K l) : 2 * l.length ≤ K := by
  have := tot_len (dtV B N) l
  have := h.t
  omega
theorem sIx_nat (n d k : Nat) : sIx n d (some (k : Int)) = min k n := by
  show (if (k : Int) < 0 then ((k : Int) + n).toNat else min (k : Int).toNat n) = _
  rw [if_neg (by omega)]
  rfl
theorem cut_to {α : Type} (l : List α) (k : Nat) : cutL l none (some (k : Int)) = l.take k := by
  unfold cutL
  rw [sIx_nat]
  show (l.drop 0).take (min k l.length - 0) = _
  rw [List.drop_zero, Nat.sub_zero]
  by_cases h : k ≤ l.length
  · rw [show min k l.length = k by omega]
  · rw [show min k l.length = l.length by omega, List.take_length, List.take_of_length_le (by omega)]
theorem cut_from {α : Type} (l : List α) (k : Nat) : cutL l (some (k : Int)) none = l.drop k := by
  unfold cutL
  rw [sIx_nat]
  show (l.drop (min k l.length)).take (l.length - min k l.length) = _
  rw [List.take_of_length_le (by rw [List.length_drop]; exact Nat.le_refl _)]
  by_cases h : k ≤ l.length
  · rw [show min k l.length = k by omega]
  · rw [show min k l.length = l.length by omega, List.drop_length, List.drop_of_length_le (by omega)]
theorem cut_sub {α : Type} (l : List α) (lo hi : Option Int) : ∃ a b, cutL l lo hi = (l.drop a).take b := ⟨_, _, rfl⟩
theorem ixN_nat {n k : Nat} (h : k < n) : ixN n (k : Int) = some k := by
  unfold ixN
  rw [if_pos (by omega), if_pos (by omega)]
  simp
end Pi

end
section
set_option linter.all false
set_option maxRecDepth 100000
set_option maxHeartbeats 0
namespace LawK53
open PySem PySem.Spec PyProof.Rows L2 Pi
def top (i : Nat) : Stmt := PySem.Challenge.pw_holdmargins_k53_what_pieces_are.main.body.getD i (.Pass ⟨0, 0, 0, 0⟩)
def fn_is_name : Fn := ⟨1, 2, [.ite (.or [(.not (.isa (.lv 0) [.str])), (.not (.chain .le .le (.cst (.int 1)) (.bi .len [(.lv 0)]) (.gv "MOST_LETTERS" (.int 8)))), (.cmp .in_ (.lv 0) (.gv "SAYING_WORDS" (.tup [(.str "and"), (.str "or"), (.str "not"), (.str "until"), (.str "always"), (.str "sometime")])))]) [.ret (.cst (.bl false))] [],
  .ret (.bi .all [(.comp 0 [(.lv 0)] (.v 1) [] (.cmp .in_ (.lv 1) (.gv "LETTERS" (.str "abcdefghijklmnopqrstuvwxyz"))))])]⟩
def fd_is_name : FD := ⟨"is_name", 1, false, ["thing", "sign"], fn_is_name, ⟨("is_name", none), "is_name", "is_name", defArgs (top 5), defBody (top 5), defScope (top 5), [], []⟩⟩
def fn_is_whole : Fn := ⟨3, 3, [.ret (.and [(.isa (.lv 0) [.int]), (.not (.isa (.lv 0) [.bool])), (.chain .le .le (.lv 1) (.lv 0) (.lv 2))])]⟩
def fd_is_whole : FD := ⟨"is_whole", 3, false, ["thing", "least", "most"], fn_is_whole, ⟨("is_whole", none), "is_whole", "is_whole", defArgs (top 6), defBody (top 6), defScope (top 6), [], []⟩⟩
def fn_is_row : Fn := ⟨2, 2, [.ret (.and [(.isa (.lv 0) [.tup]), (.chain .le .le (.cst (.int 1)) (.bi .len [(.lv 0)]) (.lv 1))])]⟩
def fd_is_row : FD := ⟨"is_row", 2, false, ["thing", "many"], fn_is_row, ⟨("is_row", none), "is_row", "is_row", defArgs (top 12), defBody (top 12), defScope (top 12), [], []⟩⟩
def fn_do_rise : Fn := ⟨1, 3, [.ret (.bi .all [(.comp 4 [(.lv 0), (.sl (.lv 0) [(.cst (.int 1))] [])] (.tup [(.v 1), (.v 2)]) [] (.cmp .lt (.lv 1) (.lv 2)))])]⟩
def fd_do_rise : FD := ⟨"do_rise", 1, false, ["some", "one", "other"], fn_do_rise, ⟨("do_rise", none), "do_rise", "do_rise", defArgs (top 13), defBody (top 13), defScope (top 13), [], []⟩⟩
def fn_is_pieces : Fn := ⟨1, 8, [.ite (.or [(.not (.isa (.lv 0) [.tup])), (.cmp .ne (.bi .len [(.lv 0)]) (.cst (.int 3)))]) [.ret (.cst (.bl false))] [],
  .asg (.tup [(.v 1), (.v 2), (.v 3)]) (.lv 0),
  .ite (.or [(.not (.call "is_row" [(.lv 1), (.gv "MOST_NAMES" (.int 2))])), (.not (.bi .all [(.comp 0 [(.lv 1)] (.v 4) [] (.call "is_name" [(.lv 4)]))])), (.not (.call "do_rise" [(.lv 1)]))]) [.ret (.cst (.bl false))] [],
  .ite (.or [(.not (.call "is_whole" [(.lv 2), (.cst (.int 1)), (.gv "MOST_LAST" (.int 4))])), (.not (.call "is_row" [(.lv 3), (.gv "MOST_VALUES" (.int 3))]))]) [.ret (.cst (.bl false))] [],
  .ite (.or [(.not (.bi .all [(.comp 0 [(.lv 3)] (.v 5) [] (.call "is_whole" [(.lv 5), (.neg (.gv "MOST_VALUE" (.int 9))), (.gv "MOST_VALUE" (.int 9))]))])), (.not (.call "do_rise" [(.lv 3)]))]) [.ret (.cst (.bl false))] [],
  .asg (.v 6) (.cst (.int 1)),
  .forr 1 [(.bin .mul (.bi .len [(.lv 1)]) (.bin .add (.lv 2) (.cst (.int 1))))] (.v 7) [.aug 6 .mul (.bi .len [(.lv 3)])],
  .ret (.cmp .le (.lv 6) (.gv "MOST_WORLDS" (.int 90)))]⟩
def fd_is_pieces : FD := ⟨"is_pieces", 1, false, ["thing", "called", "last", "values", "one", "value", "many", "place"], fn_is_pieces, ⟨("is_pieces", none), "is_pieces", "is_pieces", defArgs (top 14), defBody (top 14), defScope (top 14), [], []⟩⟩
def fn__law_dip : Fn := ⟨2, 3, [.asg (.v 2) (.ite (.cmp .lt (.lv 1) (.bi .len [(.lv 0)])) (.ix (.lv 0) (.lv 1)) (.cst (.int 0))),
  .ret (.box [(.bin .mul (.bi .abs [(.lv 2)]) (.bi .int [(.cmp .ge (.bi .abs [(.lv 2)]) (.bin .pow (.cst (.int 10)) (.cst (.int 18))))])), (.bin .add (.bin .add (.bin .mod (.lv 2) (.cst (.int 2305843009213693951))) (.bin .mul (.cst (.int 39373)) (.lv 1))) (.cst (.int 17))), (.cst (.int 0))])]⟩
def fd__law_dip : FD := ⟨"_law_dip", 2, false, ["_law_script", "_law_k", "_law_cell"], fn__law_dip, ⟨("_law_dip", none), "_law_dip", "_law_dip", defArgs (top 16), defBody (top 16), defScope (top 16), [], []⟩⟩
def fn__law_take : Fn := ⟨2, 5, [.ite (.cmp .gt (.ix (.lv 0) (.cst (.int 0))) (.cst (.int 0))) [.asg (.v 2) (.bin .mod (.ix (.lv 0) (.cst (.int 0))) (.lv 1)), .setB (.lv 0) (.cst (.int 0)) (.bin .fdiv (.ix (.lv 0) (.cst (.int 0))) (.lv 1)), .ret (.lv 2)] [],
  .setB (.lv 0) (.cst (.int 2)) (.bin .add (.ix (.lv 0) (.cst (.int 2))) (.cst (.int 1))),
  .asg (.v 3) (.bin .mod (.bin .pow (.bin .add (.ix (.lv 0) (.cst (.int 1))) (.bin .mul (.cst (.int 39373)) (.ix (.lv 0) (.cst (.int 2))))) (.cst (.int 5))) (.cst (.int 2147483647))),
  .asg (.v 4) (.bin .mod (.bin .mul (.bin .add (.bin .add (.lv 3) (.ix (.lv 0) (.cst (.int 2)))) (.bin .fdiv (.ix (.lv 0) (.cst (.int 1))) (.cst (.int 1000003)))) (.bin .add (.bin .add (.bin .mod (.lv 3) (.cst (.int 40009))) (.cst (.int 7))) (.ix (.lv 0) (.cst (.int 2))))) (.cst (.int 2147483629))),
  .ret (.bin .mod (.bin .fdiv (.bin .mod (.bin .add (.bin .mul (.lv 4) (.cst (.int 48271))) (.lv 3)) (.cst (.int 2147483587))) (.cst (.int 64))) (.lv 1))]⟩
def fd__law_take : FD := ⟨"_law_take", 2, false, ["_law_box", "_law_many", "_law_found", "_law_once", "_law_twice"], fn__law_take, ⟨("_law_take", none), "_law_take", "_law_take", defArgs (top 17), defBody (top 17), defScope (top 17), [], []⟩⟩
def fn__law_folded : Fn := ⟨2, 5, [.own 2 (.bi .list [(.sl (.lv 0) [] [(.lv 1)])]),
  .forr 5 [(.sl (.lv 0) [(.lv 1)] [(.cst (.int 63))])] (.tup [(.v 3), (.v 4)]) [.setL 2 (.bin .mod (.lv 3) (.lv 1)) (.bin .add (.ix (.lv 2) (.bin .mod (.lv 3) (.lv 1))) (.bin .mul (.lv 4) (.bin .add (.lv 3) (.cst (.int 2)))))],
  .share 2,
  .ret (.lv 2)]⟩
def fd__law_folded : FD := ⟨"_law_folded", 2, false, ["_law_script", "_law_size", "_law_cells", "_law_k", "_law_cell"], fn__law_folded, ⟨("_law_folded", none), "_law_folded", "_law_folded", defArgs (top 18), defBody (top 18), defScope (top 18), [], []⟩⟩
def fn__law_one_of : Fn := ⟨2, 2, [.ret (.ix (.lv 1) (.call "_law_take" [(.lv 0), (.bi .len [(.lv 1)])]))]⟩
def fd__law_one_of : FD := ⟨"_law_one_of", 2, false, ["_law_box", "_law_some"], fn__law_one_of, ⟨("_law_one_of", none), "_law_one_of", "_law_one_of", defArgs (top 19), defBody (top 19), defScope (top 19), [], []⟩⟩
def fn__law_strewn : Fn := ⟨2, 4, [.own 2 (.lst []),
  .forr 0 [(.lv 1)] (.v 3) [.ins 2 (.call "_law_take" [(.lv 0), (.bin .add (.bi .len [(.lv 2)]) (.cst (.int 1)))]) (.lv 3)],
  .share 2,
  .ret (.lv 2)]⟩
def fd__law_strewn : FD := ⟨"_law_strewn", 2, false, ["_law_box", "_law_some", "_law_found", "_law_one"], fn__law_strewn, ⟨("_law_strewn", none), "_law_strewn", "_law_strewn", defArgs (top 20), defBody (top 20), defScope (top 20), [], []⟩⟩
def fn__law_named : Fn := ⟨2, 7, [.par [(2, false), (3, true)] [(.cst (.str "abcdefghijklmnopqrstuvwxyz")), (.lst [])],
  .forr 1 [(.lv 1)] (.v 4) [.asg (.v 5) (.bi .join [(.cst (.str "")), (.comp 1 [(.ix (.lst [(.cst (.int 1)), (.cst (.int 2)), (.cst (.int 4)), (.cst (.int 8))]) (.call "_law_take" [(.lv 0), (.cst (.int 4))]))] (.v 6) [] (.ix (.lv 2) (.call "_law_take" [(.lv 0), (.cst (.int 26))])))]), .forr 1 [(.bin .add (.bi .len [(.lv 3)]) (.cst (.int 2)))] (.v 6) [.ite (.cmp .in_ (.lv 5) (.bin .add (.lv 3) (.lst [(.cst (.str "and")), (.cst (.str "or")), (.cst (.str "not")), (.cst (.str "until")), (.cst (.str "always")), (.cst (.str "sometime"))]))) [.asg (.v 5) (.bin .add (.bin .add (.sl (.lv 5) [] [(.cst (.int 6))]) (.ix (.lv 2) (.bin .fdiv (.lv 6) (.cst (.int 26))))) (.ix (.lv 2) (.bin .mod (.lv 6) (.cst (.int 26)))))] []], .app 3 (.lv 5)],
  .share 3,
  .ret (.lv 3)]⟩
def fd__law_named : FD := ⟨"_law_named", 2, false, ["_law_box", "_law_many", "_law_letters", "_law_found", "_law_k", "_law_one", "_law_turn"], fn__law_named, ⟨("_law_named", none), "_law_named", "_law_named", defArgs (top 21), defBody (top 21), defScope (top 21), [], []⟩⟩
def fn__law_same : Fn := ⟨2, 4, [.ite (.isa (.lv 1) [.lst, .tup]) [.ite (.or [(.cmp .ne (.isa (.lv 0) [.lst]) (.isa (.lv 1) [.lst])), (.cmp .ne (.isa (.lv 0) [.tup]) (.isa (.lv 1) [.tup]))]) [.ret (.cst (.bl false))] [], .ret (.and [(.cmp .eq (.bi .len [(.lv 0)]) (.bi .len [(.lv 1)])), (.bi .all [(.comp 4 [(.lv 0), (.lv 1)] (.tup [(.v 2), (.v 3)]) [] (.call "_law_same" [(.lv 2), (.lv 3)]))])])] [],
  .ite (.or [(.cmp .isn (.lv 1) (.cst .non)), (.cmp .isn (.lv 0) (.cst .non))]) [.ret (.and [(.cmp .isn (.lv 1) (.cst .non)), (.cmp .isn (.lv 0) (.cst .non))])] [],
  .ite (.or [(.isa (.lv 1) [.bool]), (.isa (.lv 1) [.str])]) [.ret (.and [(.cmp .eq (.isa (.lv 0) [.bool]) (.isa (.lv 1) [.bool])), (.cmp .eq (.lv 0) (.lv 1))])] [],
  .ret (.and [(.isa (.lv 0) [.int]), (.not (.isa (.lv 0) [.bool])), (.cmp .eq (.lv 0) (.lv 1))])]⟩
def fd__law_same : FD := ⟨"_law_same", 2, false, ["_law_found", "_law_due_here", "_law_one", "_law_other"], fn__law_same, ⟨("_law_same", none), "_law_same", "_law_same", defArgs (top 22), defBody (top 22), defScope (top 22), [], []⟩⟩
def fn__law_drawn_pieces : Fn := ⟨1, 3, [.asg (.v 1) (.bi .tuple [(.bi .sorted [(.call "_law_named" [(.lv 0), (.bin .add (.cst (.int 1)) (.call "_law_take" [(.lv 0), (.cst (.int 2))]))])])]),
  .asg (.v 2) (.bi .sorted [(.sl (.call "_law_strewn" [(.lv 0), (.lrg [(.neg (.cst (.int 9))), (.cst (.int 10))])]) [] [(.bin .add (.cst (.int 1)) (.call "_law_take" [(.lv 0), (.cst (.int 3))]))])]),
  .ret (.tup [(.lv 1), (.bin .add (.cst (.int 1)) (.call "_law_take" [(.lv 0), (.cst (.int 4))])), (.bi .tuple [(.lv 2)])])]⟩
def fd__law_drawn_pieces : FD := ⟨"_law_drawn_pieces", 1, false, ["_law_box", "_law_called", "_law_values"], fn__law_drawn_pieces, ⟨("_law_drawn_pieces", none), "_law_drawn_pieces", "_law_drawn_pieces", defArgs (top 23), defBody (top 23), defScope (top 23), [], []⟩⟩
def fn__law_is_one : Fn := ⟨1, 2, [.ite (.or [(.not (.isa (.lv 0) [.str])), (.not (.chain .lt .lt (.cst (.int 0)) (.bi .len [(.lv 0)]) (.cst (.int 9)))), (.not (.bi .all [(.comp 0 [(.lv 0)] (.v 1) [] (.chain .le .le (.cst (.str "a")) (.lv 1) (.cst (.str "z"))))]))]) [.ret (.cst (.bl false))] [],
  .ret (.cmp .nin (.lv 0) (.tup [(.cst (.str "and")), (.cst (.str "or")), (.cst (.str "not")), (.cst (.str "until")), (.cst (.str "always")), (.cst (.str "sometime"))]))]⟩
def fd__law_is_one : FD := ⟨"_law_is_one", 1, false, ["_law_odd_here", "_law_sign"], fn__law_is_one, ⟨("_law_is_one", none), "_law_is_one", "_law_is_one", defArgs (top 24), defBody (top 24), defScope (top 24), [], []⟩⟩
def fn__law_is_whole : Fn := ⟨3, 3, [.ret (.and [(.isa (.lv 0) [.int]), (.not (.isa (.lv 0) [.bool])), (.chain .le .le (.lv 1) (.lv 0) (.lv 2))])]⟩
def fd__law_is_whole : FD := ⟨"_law_is_whole", 3, false, ["_law_odd_here", "_law_least", "_law_greatest"], fn__law_is_whole, ⟨("_law_is_whole", none), "_law_is_whole", "_law_is_whole", defArgs (top 25), defBody (top 25), defScope (top 25), [], []⟩⟩
def fn__law_due : Fn := ⟨1, 9, [.ite (.or [(.not (.isa (.lv 0) [.tup])), (.cmp .ne (.bi .len [(.lv 0)]) (.cst (.int 3))), (.not (.isa (.ix (.lv 0) (.cst (.int 0))) [.tup])), (.not (.isa (.ix (.lv 0) (.cst (.int 2))) [.tup]))]) [.ret (.cst (.bl false))] [],
  .asg (.tup [(.v 1), (.v 2), (.v 3)]) (.lv 0),
  .ite (.or [(.cmp .nin (.bi .len [(.lv 1)]) (.tup [(.cst (.int 1)), (.cst (.int 2))])), (.not (.bi .all [(.comp 0 [(.lv 1)] (.v 4) [] (.call "_law_is_one" [(.lv 4)]))])), (.not (.call "_law_is_whole" [(.lv 2), (.cst (.int 1)), (.cst (.int 4))]))]) [.ret (.cst (.bl false))] [],
  .ite (.and [(.cmp .eq (.bi .len [(.lv 1)]) (.cst (.int 2))), (.not (.cmp .lt (.ix (.lv 1) (.cst (.int 0))) (.ix (.lv 1) (.cst (.int 1)))))]) [.ret (.cst (.bl false))] [],
  .ite (.or [(.cmp .nin (.bi .len [(.lv 3)]) (.tup [(.cst (.int 1)), (.cst (.int 2)), (.cst (.int 3))])), (.not (.bi .all [(.comp 0 [(.lv 3)] (.v 5) [] (.call "_law_is_whole" [(.lv 5), (.neg (.cst (.int 9))), (.cst (.int 9))]))]))]) [.ret (.cst (.bl false))] [],
  .asg (.v 6) (.cst (.int 1)),
  .forr 1 [(.bin .mul (.bi .len [(.lv 1)]) (.bin .add (.lv 2) (.cst (.int 1))))] (.v 7) [.asg (.v 6) (.bin .mul (.lv 6) (.bi .len [(.lv 3)]))],
  .ret (.and [(.bi .all [(.comp 4 [(.lv 3), (.sl (.lv 3) [(.cst (.int 1))] [])] (.tup [(.v 4), (.v 8)]) [] (.cmp .lt (.lv 4) (.lv 8)))]), (.cmp .le (.lv 6) (.cst (.int 90)))])]⟩
def fd__law_due : FD := ⟨"_law_due", 1, false, ["_law_odd_here", "_law_called", "_law_last", "_law_values", "_law_one", "_law_value", "_law_many", "_law_turn", "_law_other"], fn__law_due, ⟨("_law_due", none), "_law_due", "_law_due", defArgs (top 26), defBody (top 26), defScope (top 26), [], []⟩⟩
def fn__law_odd : Fn := ⟨2, 3, [.asg (.v 2) (.lst [(.cst .non), (.cst (.bl true)), (.cst (.bl false)), (.cst (.int 0)), (.cst (.str "")), (.cst (.str "a")), (.tup []), (.lst []), (.lst [(.lv 1)]), (.tup [(.lv 1)]), (.cst (.str "until")), (.cst (.str "Ab")), (.cst (.int 10)), (.neg (.cst (.int 10))), (.cst (.str "abcdefghi")), (.bin .pow (.cst (.int 10)) (.cst (.int 20)))]),
  .ite (.isa (.lv 1) [.int]) [.asg (.v 2) (.bin .add (.lv 2) (.bin .mul (.lst [(.bin .add (.lv 1) (.cst (.int 1))), (.bin .sub (.lv 1) (.cst (.int 1))), (.bin .add (.lv 1) (.cst (.int 1))), (.bin .sub (.lv 1) (.cst (.int 1))), (.bin .sub (.cst (.int 0)) (.lv 1)), (.bi .str [(.lv 1)])]) (.cst (.int 2))))] [],
  .ite (.isa (.lv 1) [.str]) [.asg (.v 2) (.bin .add (.lv 2) (.lst [(.bin .add (.lv 1) (.cst (.str "z"))), (.sl (.lv 1) [] [(.neg (.cst (.int 1)))]), (.sm0 (.lv 1)), (.bin .add (.lv 1) (.cst (.str " "))), (.cst (.str "always")), (.cst (.str "sometimes"))]))] [],
  .ret (.call "_law_one_of" [(.lv 0), (.lv 2)])]⟩
def fd__law_odd : FD := ⟨"_law_odd", 2, false, ["_law_box", "_law_thing", "_law_some"], fn__law_odd, ⟨("_law_odd", none), "_law_odd", "_law_odd", defArgs (top 27), defBody (top 27), defScope (top 27), [], []⟩⟩
def fn__law_bent : Fn := ⟨2, 5, [.asg (.v 2) (.call "_law_take" [(.lv 0), (.cst (.int 8))]),
  .ite (.or [(.not (.isa (.lv 1) [.lst, .tup])), (.cmp .eq (.bi .len [(.lv 1)]) (.cst (.int 0))), (.cmp .eq (.lv 2) (.cst (.int 0)))]) [.ret (.call "_law_odd" [(.lv 0), (.lv 1)])] [],
  .par [(3, true), (4, false)] [(.bi .list [(.lv 1)]), (.call "_law_take" [(.lv 0), (.bi .len [(.lv 1)])])],
  .ite (.cmp .eq (.lv 2) (.cst (.int 1))) [.share 3, .ret (.lv 3)] [],
  .ite (.cmp .gt (.lv 2) (.cst (.int 4))) [.setL 3 (.lv 4) (.call "_law_bent" [(.lv 0), (.ix (.lv 3) (.lv 4))])] [.asg (.v 3) (.ix (.lst [(.bin .add (.sl (.lv 3) [] [(.lv 4)]) (.sl (.lv 3) [(.bin .add (.lv 4) (.cst (.int 1)))] [])), (.bin .add (.lv 3) (.sl (.lv 3) [(.lv 4)] [(.bin .add (.lv 4) (.cst (.int 1)))])), (.bin .add (.bin .add (.sl (.lv 3) [] [(.lv 4)]) (.rev (.sl (.lv 3) [(.lv 4)] [(.bin .add (.lv 4) (.cst (.int 2)))]))) (.sl (.lv 3) [(.bin .add (.lv 4) (.cst (.int 2)))] []))]) (.bin .sub (.lv 2) (.cst (.int 2))))],
  .ret (.ite (.isa (.lv 1) [.tup]) (.bi .tuple [(.lv 3)]) (.lv 3))]⟩
def fd__law_bent : FD := ⟨"_law_bent", 2, false, ["_law_box", "_law_thing", "_law_way", "_law_row", "_law_at"], fn__law_bent, ⟨("_law_bent", none), "_law_bent", "_law_bent", defArgs (top 28), defBody (top 28), defScope (top 28), [], []⟩⟩
def fn__law_right : Fn := ⟨1, 8, [.forr 1 [(.cst (.int 6))] (.v 1) [.asg (.v 2) (.call "_law_drawn_pieces" [(.lv 0)]), .own 3 (.lst [(.lv 2), (.bi .list [(.lv 2)]), (.sl (.lv 2) [] [(.cst (.int 2))]), (.bin .add (.lv 2) (.tup [(.tup [])])), (.ix (.lv 2) (.cst (.int 0)))]), .forr 1 [(.cst (.int 12))] (.v 4) [.asg (.v 5) (.call "_law_bent" [(.lv 0), (.lv 2)]), .app 3 (.ite (.cmp .eq (.call "_law_take" [(.lv 0), (.cst (.int 3))]) (.cst (.int 0))) (.call "_law_bent" [(.lv 0), (.lv 5)]) (.lv 5))], .share 3, .forr 0 [(.lv 3)] (.v 5) [.par [(6, false), (7, false)] [(.bi .repr [(.lv 5)]), (.call "_law_due" [(.lv 5)])], .ite (.or [(.not (.call "_law_same" [(.lst [(.call "is_pieces" [(.lv 5)]), (.call "is_pieces" [(.lv 5)])]), (.lst [(.lv 7), (.lv 7)])])), (.cmp .ne (.bi .repr [(.lv 5)]) (.lv 6))]) [.ret (.cst (.bl false))] []]],
  .ret (.cst (.bl true))]⟩
def fd__law_right : FD := ⟨"_law_right", 1, false, ["_law_box", "_law_turn", "_law_good", "_law_things", "_law_again", "_law_thing", "_law_kept", "_law_due_here"], fn__law_right, ⟨("_law_right", none), "_law_right", "_law_right", defArgs (top 29), defBody (top 29), defScope (top 29), [], []⟩⟩
def fn_law : Fn := ⟨1, 6, [.asg (.v 1) (.call "_law_folded" [(.lv 0), (.cst (.int 3))]),
  .asg (.v 2) (.lst [(.tup [(.tup [(.cst (.str "a"))]), (.cst (.int 3)), (.tup [(.cst (.int 0)), (.cst (.int 1)), (.cst (.int 2))])]), (.tup [(.tup [(.cst (.str "a"))]), (.cst (.int 4)), (.tup [(.cst (.int 0)), (.cst (.int 1)), (.cst (.int 2))])]), (.tup [(.tup [(.cst (.str "a")), (.cst (.str "b"))]), (.cst (.int 1)), (.tup [(.cst (.int 0)), (.cst (.int 1)), (.cst (.int 2))])]), (.tup [(.tup [(.cst (.str "a")), (.cst (.str "b"))]), (.cst (.int 2)), (.tup [(.cst (.int 0)), (.cst (.int 1)), (.cst (.int 2))])])]),
  .asg (.v 2) (.bin .add (.lv 2) (.lst [(.tup [(.tup [(.cst (.str "a")), (.cst (.str "b"))]), (.cst (.int 2)), (.tup [(.neg (.cst (.int 9))), (.cst (.int 9))])]), (.tup [(.tup [(.cst (.str "a")), (.cst (.str "b"))]), (.cst (.int 3)), (.tup [(.cst (.int 0)), (.cst (.int 1))])]), (.tup [(.tup [(.cst (.str "a")), (.cst (.str "b"))]), (.cst (.int 4)), (.tup [(.cst (.int 5))])]), (.tup [(.tup [(.cst (.str "a"))]), (.cst (.int 4)), (.tup [(.cst (.int 0)), (.cst (.int 1))])])])),
  .asg (.v 2) (.bin .add (.lv 2) (.lst [(.tup [(.tup [(.cst (.str "a")), (.cst (.str "b")), (.cst (.str "c"))]), (.cst (.int 1)), (.tup [(.cst (.int 0))])]), (.tup [(.tup [(.cst (.str "a")), (.cst (.str "a"))]), (.cst (.int 1)), (.tup [(.cst (.int 0))])]), (.tup [(.tup [(.cst (.str "b")), (.cst (.str "a"))]), (.cst (.int 1)), (.tup [(.cst (.int 0))])]), (.tup [(.tup [(.cst (.str "a"))]), (.cst (.int 5)), (.tup [(.cst (.int 0))])])])),
  .asg (.v 3) (.lst [(.cst (.bl true)), (.cst (.bl false)), (.cst (.bl true)), (.cst (.bl false)), (.cst (.bl true)), (.cst (.bl false)), (.cst (.bl true)), (.cst (.bl true)), (.cst (.bl false)), (.cst (.bl false)), (.cst (.bl false)), (.cst (.bl false))]),
  .ite (.not (.call "_law_same" [(.bin .add (.comp 0 [(.lv 2)] (.v 4) [] (.call "is_pieces" [(.lv 4)])) (.lst [(.gv "MOST_WORLDS" (.int 90))])), (.bin .add (.lv 3) (.lst [(.cst (.int 90))]))])) [.ret (.cst (.bl false))] [],
  .ret (.bi .all [(.comp 1 [(.bi .max2 [(.cst (.int 1)), (.bi .len [(.lv 1)])])] (.v 5) [] (.call "_law_right" [(.call "_law_dip" [(.lv 1), (.lv 5)])]))])]⟩
def fd_law : FD := ⟨"law", 1, false, ["_law_script", "_law_cells", "_law_fixed", "_law_told", "_law_one", "_law_k"], fn_law, ⟨("law", none), "law", "law", defArgs (top 30), defBody (top 30), defScope (top 30), [], []⟩⟩
def hd : HD := { fds := [fd_is_name, fd_is_whole, fd_is_row, fd_do_rise, fd_is_pieces, fd__law_dip, fd__law_take, fd__law_folded, fd__law_one_of, fd__law_strewn, fd__law_named, fd__law_same, fd__law_drawn_pieces, fd__law_is_one, fd__law_is_whole, fd__law_due, fd__law_odd, fd__law_bent, fd__law_right, fd_law], gvs := [("MOST_WORLDS", (.int 90)), ("LETTERS", (.str "abcdefghijklmnopqrstuvwxyz")), ("MOST_LETTERS", (.int 8)), ("SAYING_WORDS", (.tup [(.str "and"), (.str "or"), (.str "not"), (.str "until"), (.str "always"), (.str "sometime")])), ("MOST_NAMES", (.int 2)), ("MOST_LAST", (.int 4)), ("MOST_VALUES", (.int 3)), ("MOST_VALUE", (.int 9))], dxs := [], fks := [], xds := [], xns := [] }
theorem hd_ok : hd.ok = true := by decide +kernel
theorem hd_bind : ∀ q ∈ hd.fds, q.bind := by
  show ∀ q ∈ [fd_is_name, fd_is_whole, fd_is_row, fd_do_rise, fd_is_pieces, fd__law_dip, fd__law_take, fd__law_folded, fd__law_one_of, fd__law_strewn, fd__law_named, fd__law_same, fd__law_drawn_pieces, fd__law_is_one, fd__law_is_whole, fd__law_due, fd__law_odd, fd__law_bent, fd__law_right, fd_law], q.bind
  simp only [List.forall_mem_cons]
  exact ⟨fun K f fd F => FunD.bindsN (ps := ["thing"]) F fun _ _ _ _ _ _ us hl => match us, hl with | [_], _ => rfl, ⟨fun K f fd F => FunD.bindsN (ps := ["thing", "least", "most"]) F fun _ _ _ _ _ _ us hl => match us, hl with | [_, _, _], _ => rfl, ⟨fun K f fd F => FunD.bindsN (ps := ["thing", "many"]) F fun _ _ _ _ _ _ us hl => match us, hl with | [_, _], _ => rfl, ⟨fun K f fd F => FunD.bindsN (ps := ["some"]) F fun _ _ _ _ _ _ us hl => match us, hl with | [_], _ => rfl, ⟨fun K f fd F => FunD.bindsN (ps := ["thing"]) F fun _ _ _ _ _ _ us hl => match us, hl with | [_], _ => rfl, ⟨fun K f fd F => FunD.bindsN (ps := ["_law_script", "_law_k"]) F fun _ _ _ _ _ _ us hl => match us, hl with | [_, _], _ => rfl, ⟨fun K f fd F => FunD.bindsN (ps := ["_law_box", "_law_many"]) F fun _ _ _ _ _ _ us hl => match us, hl with | [_, _], _ => rfl, ⟨fun K f fd F => FunD.bindsN (ps := ["_law_script", "_law_size"]) F fun _ _ _ _ _ _ us hl => match us, hl with | [_, _], _ => rfl, ⟨fun K f fd F => FunD.bindsN (ps := ["_law_box", "_law_some"]) F fun _ _ _ _ _ _ us hl => match us, hl with | [_, _], _ => rfl, ⟨fun K f fd F => FunD.bindsN (ps := ["_law_box", "_law_some"]) F fun _ _ _ _ _ _ us hl => match us, hl with | [_, _], _ => rfl, ⟨fun K f fd F => FunD.bindsN (ps := ["_law_box", "_law_many"]) F fun _ _ _ _ _ _ us hl => match us, hl with | [_, _], _ => rfl, ⟨fun K f fd F => FunD.bindsN (ps := ["_law_found", "_law_due_here"]) F fun _ _ _ _ _ _ us hl => match us, hl with | [_, _], _ => rfl, ⟨fun K f fd F => FunD.bindsN (ps := ["_law_box"]) F fun _ _ _ _ _ _ us hl => match us, hl with | [_], _ => rfl, ⟨fun K f fd F => FunD.bindsN (ps := ["_law_odd_here"]) F fun _ _ _ _ _ _ us hl => match us, hl with | [_], _ => rfl, ⟨fun K f fd F => FunD.bindsN (ps := ["_law_odd_here", "_law_least", "_law_greatest"]) F fun _ _ _ _ _ _ us hl => match us, hl with | [_, _, _], _ => rfl, ⟨fun K f fd F => FunD.bindsN (ps := ["_law_odd_here"]) F fun _ _ _ _ _ _ us hl => match us, hl with | [_], _ => rfl, ⟨fun K f fd F => FunD.bindsN (ps := ["_law_box", "_law_thing"]) F fun _ _ _ _ _ _ us hl => match us, hl with | [_, _], _ => rfl, ⟨fun K f fd F => FunD.bindsN (ps := ["_law_box", "_law_thing"]) F fun _ _ _ _ _ _ us hl => match us, hl with | [_, _], _ => rfl, ⟨fun K f fd F => FunD.bindsN (ps := ["_law_box"]) F fun _ _ _ _ _ _ us hl => match us, hl with | [_], _ => rfl, ⟨fun K f fd F => FunD.bindsN (ps := ["_law_script"]) F fun _ _ _ _ _ _ us hl => match us, hl with | [_], _ => rfl, fun _ h => by cases h⟩⟩⟩⟩⟩⟩⟩⟩⟩⟩⟩⟩⟩⟩⟩⟩⟩⟩⟩⟩
theorem hd_kw : hd.kw := fun q hq => by cases hq
theorem hd_xb : ∀ q ∈ hd.xds, q.bind := fun q hq => by cases hq
abbrev R : PySem.W.OpenRow := PySem.W.OpenLaw.row PySem.Challenge.rw_holdmargins_k53_what_pieces_are
abbrev hk : PySem.W.Hook := hd.hook 6
def ob (s : PySem.W.SharedT) : AlP := hd.obsG 6 (HandSHeadRun.getT s)
theorem ob_eq (s : PySem.W.SharedT) : ob s = hk.obs s.abs := HD.obs_eq (HandSHeadRun.getT_eq s)
def nm : List Str := (["MOST_WORLDS", "LETTERS", "MOST_LETTERS", "SAYING_WORDS", "is_name", "is_whole", "MOST_NAMES", "MOST_LAST", "MOST_VALUES", "MOST_VALUE", "is_row", "do_rise", "is_pieces", "_law_dip", "_law_take", "_law_folded", "_law_one_of", "_law_strewn", "_law_named", "_law_same"] : List Str) ++ (["_law_drawn_pieces", "_law_is_one", "_law_is_whole", "_law_due", "_law_odd", "_law_bent", "_law_right"] : List Str)
theorem run_f (w : World) : HandSHeadRun.RunEq R (PySem.W.view R.prog [30]) hk ob 20000 nm (w.withFollow "special-get-raises" false) := by
  intro os
  kernel_rfl
theorem run_t (w : World) : HandSHeadRun.RunEq R (PySem.W.view R.prog [30]) hk ob 20000 nm (w.withFollow "special-get-raises" true) := by
  intro os
  kernel_rfl
theorem run (w : World) : HandSHeadRun.RunEq R (PySem.W.view R.prog [30]) hk ob 20000 nm w := PySem.W.byRow2 "special-get-raises" (P := fun w => HandSHeadRun.RunEq R (PySem.W.view R.prog [30]) hk ob 20000 nm w) run_f run_t w
end LawK53

open PySem PySem.W PySem.Calls PyProof.Rows
theorem law_LawK53 (hall : ∀ ns : List Int, ns.length ≤ 63 → ∃ S', Pi.callF LawK53.hd.g.sg LawK53.hd.tab 100 "law" [.loc 0] [.ro (ns.map .int)] = .ok (.bl true) S') : PySem.Challenge.rw_holdmargins_k53_what_pieces_are.Holds := by
  w_on; o_law
  refine HandSHeadRun.head_any (r := OpenLaw.row PySem.Challenge.rw_holdmargins_k53_what_pieces_are) (q := view (OpenLaw.row PySem.Challenge.rw_holdmargins_k53_what_pieces_are).prog [30]) (H := LawK53.hk) (ob := LawK53.ob) (M := 20000) (loose := LawK53.nm) (d := HandSHeadRun.topDef (OpenLaw.row PySem.Challenge.rw_holdmargins_k53_what_pieces_are).prog 30) (kwd := [])
    LawK53.ob_eq (by kernel_rfl) (fun s => by kernel_rfl) LawK53.run (by kernel_rfl) (by kernel_rfl) (by kernel_rfl) (by rfl) (by first | assumption | decide +kernel) (by decide +kernel) ⟨rfl, rfl, rfl, rfl, rfl, by decide +kernel⟩ ?hw ?hc
  case hw => w_witness2
  case hc =>
    refine Pi.walk_g (l := PySem.Challenge.rw_holdmargins_k53_what_pieces_are) (n := 63) (k := 102) (x := "_law_script") (CX := Pi.CXA) rfl (by decide) (by kernel_rfl) ⟨rfl, by decide, by decide⟩ ?F (fun _ _ _ _ z => Pi.cxa_no z)
    intro w mg fa h Y G hmg0
    have hmg : mg ("law" : PySem.Str) = some (.ref fa) := by
      have e : (HandSHeadRun.topDef (OpenLaw.row PySem.Challenge.rw_holdmargins_k53_what_pieces_are).prog 30).name = ("law" : PySem.Str) := by kernel_rfl
      rw [← e]
      exact hmg0
    exact Pi.HD.fin (h := LawK53.hd) LawK53.hd_kw LawK53.hd_xb LawK53.hd_ok LawK53.hd_bind (q := LawK53.fd_law) (List.mem_of_getElem? (i := 19) rfl) rfl rfl rfl rfl (fun K f fd F s u => L2.FunD.bindsA (ps := ["_law_script"]) F (fun _ _ _ _ _ _ us hl => match us, hl with | [_], _ => rfl) s [u] rfl) hall Y G hmg

end
section
set_option linter.all false
set_option maxRecDepth 100000
/-! K53q: what pieces are, of any data. -/
namespace LawK53
open PySem Pi
abbrev sgL : Sig := hd.g.sg
theorem t_isname : hd.tab "is_name" = some Co.fn_is_name := rfl
theorem t_whole : hd.tab "is_whole" = some Co.fn_is_whole := rfl
theorem t_row : hd.tab "is_row" = some fn_is_row := rfl
theorem t_rise : hd.tab "do_rise" = some fn_do_rise := rfl
theorem t_pieces : hd.tab "is_pieces" = some fn_is_pieces := rfl
theorem t_lone : hd.tab "_law_is_one" = some fn__law_is_one := rfl
theorem t_lwhole : hd.tab "_law_is_whole" = some fn__law_is_whole := rfl
theorem t_due : hd.tab "_law_due" = some fn__law_due := rfl
def Gd (v : Val) : Prop := ∃ n, goodV n v = true
theorem gd_tl {l : List Val} (h : Gd (.tup l)) : ∀ x ∈ l, Gd x := by
  obtain ⟨n, h⟩ := h
  cases n with
  | zero => cases h
  | succ n => exact fun x hx => ⟨n, good_tl h x hx⟩
def rowB (k : Nat) : Val → Bool
  | .tup l => decide (1 ≤ l.length) && decide (l.length ≤ k)
  | _ => false
theorem row_ok {v : Val} (g : Gd v) (k d : Nat) (S : Store) : callF sgL hd.tab (d + 1) "is_row" [v, .int k] S = .ok (.bl (rowB k v)) S := by
  obtain ⟨n, g⟩ := g
  rw [call_eq t_row rfl]
  cases v with
  | tup l =>
    by_cases h : 1 ≤ l.length
    · have h' : (1 : Int) ≤ (l.length : Int) := by omega
      by_cases h2 : l.length ≤ k
      · have h2' : (l.length : Int) ≤ (k : Int) := by omega
        simp [fn_is_row, isasV, isaV, rowB, h, h', h2, h2']
      · have h2' : ¬ (l.length : Int) ≤ (k : Int) := by omega
        simp [fn_is_row, isasV, isaV, rowB, h, h', h2, h2']
    · have h' : ¬ (1 : Int) ≤ (l.length : Int) := by omega
      simp [fn_is_row, isasV, isaV, rowB, h, h']
  | non => kernel_rfl
  | bl _ => kernel_rfl
  | int _ => kernel_rfl
  | str _ => kernel_rfl
  | lst _ => kernel_rfl
  | _ => cases n <;> cases g
theorem lwhole_ok {v : Val} (g : Gd v) (a b : Int) (d : Nat) (S : Store) : callF sgL hd.tab (d + 1) "_law_is_whole" [v, .int a, .int b] S = .ok (.bl (isWh a b v)) S := by
  obtain ⟨n, g⟩ := g
  rw [call_eq t_lwhole rfl]
  cases v with
  | int k => by_cases h1 : a ≤ k <;> simp [fn__law_is_whole, isasV, isaV, isWh, h1]
  | non => kernel_rfl
  | bl _ => kernel_rfl
  | str _ => kernel_rfl
  | tup _ => kernel_rfl
  | lst _ => kernel_rfl
  | _ => cases n <;> cases g
theorem rise1 (x : Val) (d : Nat) (S : Store) : callF sgL hd.tab (d + 1) "do_rise" [.tup [x]] S = .ok (.bl true) S := by
  rw [call_eq t_rise rfl]
  kernel_rfl
theorem rise2s (x y : Str) (d : Nat) (S : Store) : callF sgL hd.tab (d + 1) "do_rise" [.tup [.str x, .str y]] S = .ok (.bl (decide (x.cps.toList < y.cps.toList) && true)) S := by
  rw [call_eq t_rise rfl]
  kernel_rfl
theorem rise2i (x y : Int) (d : Nat) (S : Store) : callF sgL hd.tab (d + 1) "do_rise" [.tup [.int x, .int y]] S = .ok (.bl (decide (x < y) && true)) S := by
  rw [call_eq t_rise rfl]
  kernel_rfl
theorem rise3i (x y z : Int) (d : Nat) (S : Store) : callF sgL hd.tab (d + 1) "do_rise" [.tup [.int x, .int y, .int z]] S = .ok (.bl (decide (x < y) && (decide (y < z) && true))) S := by
  rw [call_eq t_rise rfl]
  kernel_rfl
theorem sign_ge (c : Nat) : cmpV .le (.str "a") (.str ⟨#[c]⟩) = some (decide (97 ≤ c)) := by
  have e : ("a" : Str).cps.toList = [97] := by decide +kernel
  show some (!decide (([c] : List Nat) < ("a" : Str).cps.toList)) = _
  rw [e]
  have q : (([c] : List Nat) < [97]) ↔ c < 97 := by
    rw [List.cons_lt_cons_iff]
    simp
  by_cases h : 97 ≤ c
  · rw [decide_eq_true h, decide_eq_false fun z => absurd (q.mp z) (by omega)]
    rfl
  · rw [decide_eq_false h, decide_eq_true (q.mpr (by omega))]
    rfl
theorem sign_le (c : Nat) : cmpV .le (.str ⟨#[c]⟩) (.str "z") = some (decide (c ≤ 122)) := by
  have e : ("z" : Str).cps.toList = [122] := by decide +kernel
  show some (!decide (("z" : Str).cps.toList < ([c] : List Nat))) = _
  rw [e]
  have q : (([122] : List Nat) < [c]) ↔ 122 < c := by
    rw [List.cons_lt_cons_iff]
    simp
  by_cases h : c ≤ 122
  · rw [decide_eq_true h, decide_eq_false fun z => absurd (q.mp z) (by omega)]
    rfl
  · rw [decide_eq_false h, decide_eq_true (q.mpr (by omega))]
    rfl
theorem in_ltrB (c : Nat) : decide (c ∈ ("abcdefghijklmnopqrstuvwxyz" : Str).cps.toList) = (decide (97 ≤ c) && decide (c ≤ 122)) := by
  have i := in_ltr c
  by_cases h : 97 ≤ c
  · by_cases h2 : c ≤ 122
    · rw [decide_eq_true h, decide_eq_true h2, decide_eq_true (i.mpr ⟨h, h2⟩)]
      rfl
    · rw [decide_eq_true h, decide_eq_false h2, decide_eq_false fun z => h2 (i.mp z).2]
      rfl
  · rw [decide_eq_false h, decide_eq_false fun z => h (i.mp z).1]
    rfl
theorem nin_words (x : Str) : cmpV .nin (.str x) (.tup [.str "and", .str "or", .str "not", .str "until", .str "always", .str "sometime"]) = some (!decide (x ∈ wordsS)) := by
  have i := in_words x
  have i : some (([.str "and", .str "or", .str "not", .str "until", .str "always", .str "sometime"] : List Val).any fun y => eqV y (.str x)) = _ := i
  show some (!(([.str "and", .str "or", .str "not", .str "until", .str "always", .str "sometime"] : List Val).any fun y => eqV y (.str x))) = _
  rw [Option.some.inj i]
def lo0 : IS := .ite (.or [(.not (.isa (.lv 0) [.str])), (.not (.chain .lt .lt (.cst (.int 0)) (.bi .len [(.lv 0)]) (.cst (.int 9)))), (.not (.bi .all [(.comp 0 [(.lv 0)] (.v 1) [] (.chain .le .le (.cst (.str "a")) (.lv 1) (.cst (.str "z"))))]))]) [.ret (.cst (.bl false))] []
def lo1 : IS := .ret (.cmp .nin (.lv 0) (.tup [(.cst (.str "and")), (.cst (.str "or")), (.cst (.str "not")), (.cst (.str "until")), (.cst (.str "always")), (.cst (.str "sometime"))]))
theorem lo_eq : fn__law_is_one.body = [lo0, lo1] := rfl
def allL (x : Str) : Bool := x.cps.toList.all fun c => decide (97 ≤ c) && decide (c ≤ 122)
theorem nice_alt (x : Str) : niceB x = (decide (1 ≤ x.length) && (decide (x.length ≤ 8) && (!decide (x ∈ wordsS) && allL x))) := by
  unfold niceB allL
  rw [show (fun c => decide (c ∈ ("abcdefghijklmnopqrstuvwxyz" : Str).cps.toList)) = fun c => decide (97 ≤ c) && decide (c ≤ 122) from funext in_ltrB]
theorem lone_ok {v : Val} (g : Gd v) (d : Nat) (S : Store) : callF sgL hd.tab (d + 1) "_law_is_one" [v] S = .ok (.bl (isNm v)) S := by
  obtain ⟨n, g⟩ := g
  rw [call_eq t_lone rfl]
  cases v with
  | str x =>
    rw [lo_eq]
    show finO (evSs sgL (callF sgL hd.tab d) [lo0, lo1] [some (.str x), none] S) = _
    have i := nin_words x
    show _ = Res.ok (Val.bl (niceB x)) S
    rw [nice_alt]
    by_cases h1 : 1 ≤ x.length
    · have h1' : (0 : Int) < (x.length : Int) := by omega
      by_cases h2 : x.length ≤ 8
      · have h2' : (x.length : Int) < 9 := by omega
        have go := compGo_map (f := compF sgL (callF sgL hd.tab d) (.v 1) [] (.chain .le .le (.cst (.str "a")) (.lv 1) (.cst (.str "z"))) [some (.str x), none]) (g := fun c => Val.str ⟨#[c]⟩)
          (h := fun c => Val.bl (decide (97 ≤ c) && decide (c ≤ 122))) (S := S) (l := x.cps.toList) fun c _ => by
            by_cases h : 97 ≤ c <;> simp [compF, wipeE, Pat.vars, sign_ge, sign_le, h]
        have il : (x.cps.toList.map fun c => Val.bl (decide (97 ≤ c) && decide (c ≤ 122))).length ≤ lim := by
          rw [List.length_map, Array.length_toList]
          exact Nat.le_trans h2 (by decide)
        have al := all_map S (fun c => decide (97 ≤ c) && decide (c ≤ 122)) x.cps.toList
        have it : itV S 0 [.str x] = some (x.cps.toList.map fun c => Val.str ⟨#[c]⟩) := rfl
        have lt1 : cmpV .lt (.int 0) (.int x.length) = some true := by
          show some (decide _) = _
          rw [decide_eq_true h1']
        have lt2 : cmpV .lt (.int x.length) (.int 9) = some true := by
          show some (decide _) = _
          rw [decide_eq_true h2']
        have his : isasV sgL.eb (.str x) [.str] = some true := rfl
        have hl : biV S .len [.str x] = some (.int x.length) := rfl
        have c3 : evE sgL (callF sgL hd.tab d) [some (.str x), none] (.bi .all [(.comp 0 [(.lv 0)] (.v 1) [] (.chain .le .le (.cst (.str "a")) (.lv 1) (.cst (.str "z"))))]) S = .ok (.bl (allL x)) S := by
          simp only [evE_q18, evEs_q0, evEs_q1, evE_cmp, evE_q0, List.getElem?_cons_zero, Res.bind_ok, Res.of_some, it, go, if_pos il, al]
          rfl
        have e0 : evS sgL (callF sgL hd.tab d) lo0 [some (.str x), none] S = if allL x then .nx [some (.str x), none] S else .rt (.bl false) S := by
          cases a : allL x with
          | true =>
            rw [a] at c3
            simp only [lo0, evS_q13, evT_q, evE_q9, evOr_q1, evE_q7, evE_q21, evE_q6, c3, evE_q18 (b := .len), evEs_q0, evEs_q1, evE_q0, evE_q1, List.getElem?_cons_zero, Res.bind_ok, Res.of_some, Option.map_some, his, hl, lt1, lt2, tru_bl, Bool.not_true, Res.on_ok, Bool.false_eq_true, if_false, if_true, evSs]
          | false =>
            rw [a] at c3
            simp only [lo0, evS_q13, evT_q, evE_q9, evOr_q1, evE_q7, evE_q21, evE_q6, c3, evE_q18 (b := .len), evEs_q0, evEs_q1, evE_q0, evE_q1, List.getElem?_cons_zero, Res.bind_ok, Res.of_some, Option.map_some, his, hl, lt1, lt2, tru_bl, Bool.not_true, Bool.not_false, Res.on_ok, Bool.false_eq_true, if_false, if_true, evSs, evS_q11, Out.then_rt]
        rw [decide_eq_true h1, decide_eq_true h2]
        cases a : allL x with
        | true =>
          rw [a, if_pos rfl] at e0
          rw [evSs_one e0]
          simp [lo1, i]
        | false =>
          rw [a, if_neg (by decide)] at e0
          simp only [evSs, e0, Out.then_rt]
          simp
      · have h2' : ¬ ((x.length : Int) < 9) := by omega
        have h0 : 0 < x.length := by omega
        simp [lo0, isasV, isaV, h0, h1, h2, h1', h2']
    · have h1' : ¬ ((0 : Int) < (x.length : Int)) := by omega
      have h0 : ¬ 0 < x.length := by omega
      simp [lo0, isasV, isaV, h0, h1, h1']
  | non => kernel_rfl
  | bl _ => kernel_rfl
  | int _ => kernel_rfl
  | tup _ => kernel_rfl
  | lst _ => kernel_rfl
  | _ => cases n <;> cases g
end LawK53

end
section
set_option linter.all false
set_option maxRecDepth 100000
/-! K53r: is_pieces and the law's own, of any data. -/
namespace LawK53
open PySem Pi
def pi0 : IS := .ite (.or [(.not (.isa (.lv 0) [.tup])), (.cmp .ne (.bi .len [(.lv 0)]) (.cst (.int 3)))]) [.ret (.cst (.bl false))] []
def pi1 : IS := .asg (.tup [(.v 1), (.v 2), (.v 3)]) (.lv 0)
def pi2 : IS := .ite (.or [(.not (.call "is_row" [(.lv 1), (.gv "MOST_NAMES" (.int 2))])), (.not (.bi .all [(.comp 0 [(.lv 1)] (.v 4) [] (.call "is_name" [(.lv 4)]))])), (.not (.call "do_rise" [(.lv 1)]))]) [.ret (.cst (.bl false))] []
def pi3 : IS := .ite (.or [(.not (.call "is_whole" [(.lv 2), (.cst (.int 1)), (.gv "MOST_LAST" (.int 4))])), (.not (.call "is_row" [(.lv 3), (.gv "MOST_VALUES" (.int 3))]))]) [.ret (.cst (.bl false))] []
def pi4 : IS := .ite (.or [(.not (.bi .all [(.comp 0 [(.lv 3)] (.v 5) [] (.call "is_whole" [(.lv 5), (.neg (.gv "MOST_VALUE" (.int 9))), (.gv "MOST_VALUE" (.int 9))]))])), (.not (.call "do_rise" [(.lv 3)]))]) [.ret (.cst (.bl false))] []
def pi5 : IS := .asg (.v 6) (.cst (.int 1))
def pi6 : IS := .forr 1 [(.bin .mul (.bi .len [(.lv 1)]) (.bin .add (.lv 2) (.cst (.int 1))))] (.v 7) [.aug 6 .mul (.bi .len [(.lv 3)])]
def pi7 : IS := .ret (.cmp .le (.lv 6) (.gv "MOST_WORLDS" (.int 90)))
theorem pi_eq : fn_is_pieces.body = [pi0, pi1, pi2, pi3, pi4, pi5, pi6, pi7] := rfl
def du0 : IS := .ite (.or [(.not (.isa (.lv 0) [.tup])), (.cmp .ne (.bi .len [(.lv 0)]) (.cst (.int 3))), (.not (.isa (.ix (.lv 0) (.cst (.int 0))) [.tup])), (.not (.isa (.ix (.lv 0) (.cst (.int 2))) [.tup]))]) [.ret (.cst (.bl false))] []
def du1 : IS := .asg (.tup [(.v 1), (.v 2), (.v 3)]) (.lv 0)
def du2 : IS := .ite (.or [(.cmp .nin (.bi .len [(.lv 1)]) (.tup [(.cst (.int 1)), (.cst (.int 2))])), (.not (.bi .all [(.comp 0 [(.lv 1)] (.v 4) [] (.call "_law_is_one" [(.lv 4)]))])), (.not (.call "_law_is_whole" [(.lv 2), (.cst (.int 1)), (.cst (.int 4))]))]) [.ret (.cst (.bl false))] []
def du3 : IS := .ite (.and [(.cmp .eq (.bi .len [(.lv 1)]) (.cst (.int 2))), (.not (.cmp .lt (.ix (.lv 1) (.cst (.int 0))) (.ix (.lv 1) (.cst (.int 1)))))]) [.ret (.cst (.bl false))] []
def du4 : IS := .ite (.or [(.cmp .nin (.bi .len [(.lv 3)]) (.tup [(.cst (.int 1)), (.cst (.int 2)), (.cst (.int 3))])), (.not (.bi .all [(.comp 0 [(.lv 3)] (.v 5) [] (.call "_law_is_whole" [(.lv 5), (.neg (.cst (.int 9))), (.cst (.int 9))]))]))]) [.ret (.cst (.bl false))] []
def du5 : IS := .asg (.v 6) (.cst (.int 1))
def du6 : IS := .forr 1 [(.bin .mul (.bi .len [(.lv 1)]) (.bin .add (.lv 2) (.cst (.int 1))))] (.v 7) [.asg (.v 6) (.bin .mul (.lv 6) (.bi .len [(.lv 3)]))]
def du7 : IS := .ret (.and [(.bi .all [(.comp 4 [(.lv 3), (.sl (.lv 3) [(.cst (.int 1))] [])] (.tup [(.v 4), (.v 8)]) [] (.cmp .lt (.lv 4) (.lv 8)))]), (.cmp .le (.lv 6) (.cst (.int 90)))])
theorem du_eq : fn__law_due.body = [du0, du1, du2, du3, du4, du5, du6, du7] := rfl

def ltS : Val → Val → Bool
  | .str x, .str y => decide (x.cps.toList < y.cps.toList)
  | _, _ => false
def ltI : Val → Val → Bool
  | .int x, .int y => decide (x < y)
  | _, _ => false
def cOk : List Val → Bool
  | [x] => isNm x
  | [x, y] => isNm x && (isNm y && ltS x y)
  | _ => false
def wOk : List Val → Bool
  | [x] => isWh (-9) 9 x
  | [x, y] => isWh (-9) 9 x && (isWh (-9) 9 y && ltI x y)
  | [x, y, z] => isWh (-9) 9 x && (isWh (-9) 9 y && (isWh (-9) 9 z && (ltI x y && ltI y z)))
  | _ => false
def tupB (f : List Val → Bool) : Val → Bool
  | .tup l => f l
  | _ => false
def lenT : Val → Nat
  | .tup l => l.length
  | _ => 0
def capB (c l w : Val) : Bool := match l with
  | .int i => decide ((lenT w) ^ (lenT c * (i.toNat + 1)) ≤ 90)
  | _ => false
def pieB (c l w : Val) : Bool := tupB cOk c && (isWh 1 4 l && (tupB wOk w && capB c l w))
def isP : Val → Bool
  | .tup l => on3 pieB l
  | _ => false
theorem nm_str {x : Val} (h : isNm x = true) : ∃ s, x = .str s := by
  cases x with
  | str s => exact ⟨s, rfl⟩
  | _ => cases h
theorem wh_int {a b : Int} {x : Val} (h : isWh a b x = true) : ∃ i, x = .int i ∧ a ≤ i ∧ i ≤ b := by
  cases x with
  | int i =>
    have h : (decide (a ≤ i) && decide (i ≤ b)) = true := h
    simp only [Bool.and_eq_true, decide_eq_true_eq] at h
    exact ⟨i, rfl, h⟩
  | _ => cases h
theorem rowB_ok {k : Nat} {v : Val} (h : rowB k v = true) : ∃ l, v = .tup l ∧ 1 ≤ l.length ∧ l.length ≤ k := by
  cases v with
  | tup l =>
    have h : (decide (1 ≤ l.length) && decide (l.length ≤ k)) = true := h
    simp only [Bool.and_eq_true, decide_eq_true_eq] at h
    exact ⟨l, rfl, h⟩
  | _ => cases h
theorem cOk_len {l : List Val} (h : cOk l = true) : 1 ≤ l.length ∧ l.length ≤ 2 := by
  match l, h with
  | [_], _ => exact ⟨by show 1 ≤ 1; decide, by show 1 ≤ 2; decide⟩
  | [_, _], _ => exact ⟨by show 1 ≤ 2; decide, by show 2 ≤ 2; decide⟩
  | _ :: _ :: _ :: _, h => cases h
theorem wOk_len {l : List Val} (h : wOk l = true) : 1 ≤ l.length ∧ l.length ≤ 3 := by
  match l, h with
  | [_], _ => exact ⟨by show 1 ≤ 1; decide, by show 1 ≤ 3; decide⟩
  | [_, _], _ => exact ⟨by show 1 ≤ 2; decide, by show 2 ≤ 3; decide⟩
  | [_, _, _], _ => exact ⟨by show 1 ≤ 3; decide, by show 3 ≤ 3; decide⟩
  | _ :: _ :: _ :: _ :: _, h => cases h
theorem row_no {k : Nat} {f : List Val → Bool} (hf : ∀ l, f l = true → 1 ≤ l.length ∧ l.length ≤ k) {v : Val} (h : rowB k v = false) : tupB f v = false := by
  cases v with
  | tup l =>
    cases e : tupB f (.tup l) with
    | false => rfl
    | true =>
      have g := hf l e
      have h : (decide (1 ≤ l.length) && decide (l.length ≤ k)) = false := h
      rw [decide_eq_true g.1, decide_eq_true g.2] at h
      cases h
  | _ => rfl
theorem all3 (S : Store) (a b c : Bool) : biV S .all [.lst [.bl a, .bl b, .bl c]] = some (.bl (a && (b && c))) := by cases a <;> cases b <;> cases c <;> rfl
def nxif (b : Bool) (ρ : Pi.Env) (S : Store) : Out := if b then .nx ρ S else .rt (.bl false) S
section
variable {v c l w : Val} {r4 r5 r6 r7 r8 : Option Val} {S : Store} {d : Nat}
theorem pi2_ok (g : Gd c) : evS sgL (callF sgL hd.tab (d + 2)) pi2 [some v, some c, some l, some w, r4, r5, r6, r7] S = nxif (tupB cOk c) [some v, some c, some l, some w, r4, r5, r6, r7] S := by
  have r := row_ok g 2 (d + 1) S
  have r : callF sgL hd.tab (d + 2) "is_row" [c, .int 2] S = _ := r
  cases e : rowB 2 c with
  | false =>
    rw [e] at r
    rw [row_no (fun _ h => cOk_len h) e]
    simp [pi2, r, nxif]
  | true =>
    rw [e] at r
    obtain ⟨cl, rfl, h1, h2⟩ := rowB_ok e
    have gl := gd_tl g
    have nm : ∀ x ∈ cl, callF sgL hd.tab (d + 2) "is_name" [x] S = .ok (.bl (isNm x)) S := fun x hx => by
      obtain ⟨n, gx⟩ := gl x hx
      exact pname_ok (sg := sgL) t_isname gx (d + 1) S
    by_cases h : cl.length = 1
    · obtain ⟨x, rfl⟩ := len1 h
      have c1 := nm x (by simp)
      have q := rise1 x (d + 1) S
      have q : callF sgL hd.tab (d + 2) "do_rise" [.tup [x]] S = _ := q
      cases e1 : isNm x with
      | false =>
        rw [e1] at c1
        simp [pi2, r, itV, compGo, compF, wipeE, Pat.vars, lim, c1, all1, nxif, tupB, cOk, e1]
      | true =>
        rw [e1] at c1
        simp [pi2, r, itV, compGo, compF, wipeE, Pat.vars, lim, c1, all1, nxif, tupB, cOk, e1, q]
    · obtain ⟨x, y, rfl⟩ := len2 (show cl.length = 2 by omega)
      have c1 := nm x (by simp)
      have c2 := nm y (by simp)
      cases e1 : isNm x with
      | false =>
        rw [e1] at c1
        simp [pi2, r, itV, compGo, compF, wipeE, Pat.vars, lim, c1, c2, all2, nxif, tupB, cOk, e1]
      | true =>
        rw [e1] at c1
        cases e2 : isNm y with
        | false =>
          rw [e2] at c2
          simp [pi2, r, itV, compGo, compF, wipeE, Pat.vars, lim, c1, c2, all2, nxif, tupB, cOk, e1, e2]
        | true =>
          rw [e2] at c2
          obtain ⟨x, rfl⟩ := nm_str e1
          obtain ⟨y, rfl⟩ := nm_str e2
          have q := rise2s x y (d + 1) S
          have q : callF sgL hd.tab (d + 2) "do_rise" [.tup [.str x, .str y]] S = .ok (.bl (ltS (.str x) (.str y) && true)) S := q
          rw [Bool.and_true] at q
          cases e3 : ltS (.str x) (.str y) with
          | false =>
            rw [e3] at q
            simp [pi2, r, itV, compGo, compF, wipeE, Pat.vars, lim, c1, c2, all2, nxif, tupB, cOk, e1, e2, e3, q]
          | true =>
            rw [e3] at q
            simp [pi2, r, itV, compGo, compF, wipeE, Pat.vars, lim, c1, c2, all2, nxif, tupB, cOk, e1, e2, e3, q]
theorem pi3_ok (g : Gd l) (g2 : Gd w) : evS sgL (callF sgL hd.tab (d + 2)) pi3 [some v, some c, some l, some w, r4, r5, r6, r7] S = nxif (isWh 1 4 l && rowB 3 w) [some v, some c, some l, some w, r4, r5, r6, r7] S := by
  have r := row_ok g2 3 (d + 1) S
  have r : callF sgL hd.tab (d + 2) "is_row" [w, .int 3] S = _ := r
  obtain ⟨n, g⟩ := g
  have q := iswhole_ok (sg := sgL) t_whole g 1 4 (d + 1) S
  have q : callF sgL hd.tab (d + 2) "is_whole" [l, .int 1, .int 4] S = _ := q
  cases e : isWh 1 4 l with
  | false =>
    rw [e] at q
    simp [pi3, q, nxif]
  | true =>
    rw [e] at q
    cases e2 : rowB 3 w with
    | false =>
      rw [e2] at r
      simp [pi3, q, r, nxif]
    | true =>
      rw [e2] at r
      simp [pi3, q, r, nxif]
theorem pi4_ok (g : Gd w) (h : rowB 3 w = true) : evS sgL (callF sgL hd.tab (d + 2)) pi4 [some v, some c, some l, some w, r4, r5, r6, r7] S = nxif (tupB wOk w) [some v, some c, some l, some w, r4, r5, r6, r7] S := by
  obtain ⟨cl, rfl, h1, h2⟩ := rowB_ok h
  have gl := gd_tl g
  have nm : ∀ x ∈ cl, callF sgL hd.tab (d + 2) "is_whole" [x, .int (-9), .int 9] S = .ok (.bl (isWh (-9) 9 x)) S := fun x hx => by
    obtain ⟨n, gx⟩ := gl x hx
    exact iswhole_ok (sg := sgL) t_whole gx (-9) 9 (d + 1) S
  by_cases h : cl.length = 1
  · obtain ⟨x, rfl⟩ := len1 h
    have c1 := nm x (by simp)
    have q := rise1 x (d + 1) S
    have q : callF sgL hd.tab (d + 2) "do_rise" [.tup [x]] S = _ := q
    cases e1 : isWh (-9) 9 x with
    | false =>
      rw [e1] at c1
      simp [pi4, itV, compGo, compF, wipeE, Pat.vars, lim, c1, all1, nxif, tupB, wOk, e1]
    | true =>
      rw [e1] at c1
      simp [pi4, itV, compGo, compF, wipeE, Pat.vars, lim, c1, all1, nxif, tupB, wOk, e1, q]
  by_cases h : cl.length = 2
  · obtain ⟨x, y, rfl⟩ := len2 h
    have c1 := nm x (by simp)
    have c2 := nm y (by simp)
    cases e1 : isWh (-9) 9 x with
    | false =>
      rw [e1] at c1
      simp [pi4, itV, compGo, compF, wipeE, Pat.vars, lim, c1, c2, all2, nxif, tupB, wOk, e1]
    | true =>
      rw [e1] at c1
      cases e2 : isWh (-9) 9 y with
      | false =>
        rw [e2] at c2
        simp [pi4, itV, compGo, compF, wipeE, Pat.vars, lim, c1, c2, all2, nxif, tupB, wOk, e1, e2]
      | true =>
        rw [e2] at c2
        obtain ⟨x, rfl, _⟩ := wh_int e1
        obtain ⟨y, rfl, _⟩ := wh_int e2
        have q := rise2i x y (d + 1) S
        have q : callF sgL hd.tab (d + 2) "do_rise" [.tup [.int x, .int y]] S = .ok (.bl (ltI (.int x) (.int y) && true)) S := q
        rw [Bool.and_true] at q
        cases e3 : ltI (.int x) (.int y) with
        | false =>
          rw [e3] at q
          simp [pi4, itV, compGo, compF, wipeE, Pat.vars, lim, c1, c2, all2, nxif, tupB, wOk, e1, e2, e3, q]
        | true =>
          rw [e3] at q
          simp [pi4, itV, compGo, compF, wipeE, Pat.vars, lim, c1, c2, all2, nxif, tupB, wOk, e1, e2, e3, q]
  · obtain ⟨x, y, z, rfl⟩ := len3 (show cl.length = 3 by omega)
    have c1 := nm x (by simp)
    have c2 := nm y (by simp)
    have c3 := nm z (by simp)
    cases e1 : isWh (-9) 9 x with
    | false =>
      rw [e1] at c1
      simp [pi4, itV, compGo, compF, wipeE, Pat.vars, lim, c1, c2, c3, all3, nxif, tupB, wOk, e1]
    | true =>
      rw [e1] at c1
      cases e2 : isWh (-9) 9 y with
      | false =>
        rw [e2] at c2
        simp [pi4, itV, compGo, compF, wipeE, Pat.vars, lim, c1, c2, c3, all3, nxif, tupB, wOk, e1, e2]
      | true =>
        rw [e2] at c2
        cases e3 : isWh (-9) 9 z with
        | false =>
          rw [e3] at c3
          simp [pi4, itV, compGo, compF, wipeE, Pat.vars, lim, c1, c2, c3, all3, nxif, tupB, wOk, e1, e2, e3]
        | true =>
          rw [e3] at c3
          obtain ⟨x, rfl, _⟩ := wh_int e1
          obtain ⟨y, rfl, _⟩ := wh_int e2
          obtain ⟨z, rfl, _⟩ := wh_int e3
          have q := rise3i x y z (d + 1) S
          have q : callF sgL hd.tab (d + 2) "do_rise" [.tup [.int x, .int y, .int z]] S = .ok (.bl (ltI (.int x) (.int y) && (ltI (.int y) (.int z) && true))) S := q
          rw [Bool.and_true] at q
          cases e4 : ltI (.int x) (.int y) with
          | false =>
            rw [e4] at q
            simp [pi4, itV, compGo, compF, wipeE, Pat.vars, lim, c1, c2, c3, all3, nxif, tupB, wOk, e1, e2, e3, e4, q]
          | true =>
            rw [e4] at q
            cases e5 : ltI (.int y) (.int z) with
            | false =>
              rw [e5] at q
              simp [pi4, itV, compGo, compF, wipeE, Pat.vars, lim, c1, c2, c3, all3, nxif, tupB, wOk, e1, e2, e3, e4, e5, q]
            | true =>
              rw [e5] at q
              simp [pi4, itV, compGo, compF, wipeE, Pat.vars, lim, c1, c2, c3, all3, nxif, tupB, wOk, e1, e2, e3, e4, e5, q]
theorem pi57 {cl wl : List Val} {i : Int} (hc : tupB cOk (.tup cl) = true) (hi : 1 ≤ i) (hi2 : i ≤ 4) (hw : tupB wOk (.tup wl) = true) :
    finO (evSs sgL (callF sgL hd.tab (d + 2)) [pi5, pi6, pi7] [some v, some (.tup cl), some (.int i), some (.tup wl), none, none, none, none] S) = .ok (.bl (capB (.tup cl) (.int i) (.tup wl))) S := by
  obtain ⟨n, rfl⟩ := Int.eq_ofNat_of_zero_le (show 0 ≤ i by omega)
  have kk : n = 1 ∨ n = 2 ∨ n = 3 ∨ n = 4 := by omega
  match cl, hc with
  | [x], _ => match wl, hw with
    | [a], _ => rcases kk with rfl | rfl | rfl | rfl <;> kernel_rfl
    | [a, b], _ => rcases kk with rfl | rfl | rfl | rfl <;> kernel_rfl
    | [a, b, c], _ => rcases kk with rfl | rfl | rfl | rfl <;> kernel_rfl
    | [], hw => cases hw
    | _ :: _ :: _ :: _ :: _, hw => cases hw
  | [x, y], _ => match wl, hw with
    | [a], _ => rcases kk with rfl | rfl | rfl | rfl <;> kernel_rfl
    | [a, b], _ => rcases kk with rfl | rfl | rfl | rfl <;> kernel_rfl
    | [a, b, c], _ => rcases kk with rfl | rfl | rfl | rfl <;> kernel_rfl
    | [], hw => cases hw
    | _ :: _ :: _ :: _ :: _, hw => cases hw
  | [], hc => cases hc
  | _ :: _ :: _ :: _, hc => cases hc
end
theorem pieces_ok {v : Val} (g : Gd v) (d : Nat) (S : Store) : callF sgL hd.tab (d + 3) "is_pieces" [v] S = .ok (.bl (isP v)) S := by
  rw [call_eq t_pieces rfl, pi_eq]
  show finO (evSs sgL (callF sgL hd.tab (d + 2)) [pi0, pi1, pi2, pi3, pi4, pi5, pi6, pi7] [some v, none, none, none, none, none, none, none] S) = _
  cases v with
  | tup vl =>
    by_cases h : vl.length = 3
    · obtain ⟨c, l, w, rfl⟩ := len3 h
      have gl := gd_tl g
      have gc := gl c (by simp)
      have gi := gl l (by simp)
      have gw := gl w (by simp)
      have e01 : evSs sgL (callF sgL hd.tab (d + 2)) [pi0, pi1] [some (.tup [c, l, w]), none, none, none, none, none, none, none] S = .nx [some (.tup [c, l, w]), some c, some l, some w, none, none, none, none] S := by kernel_rfl
      rw [evSs_two e01]
      have e2 := pi2_ok (v := .tup [c, l, w]) (l := l) (w := w) (r4 := none) (r5 := none) (r6 := none) (r7 := none) (S := S) (d := d) gc
      have e3 := pi3_ok (v := .tup [c, l, w]) (c := c) (r4 := none) (r5 := none) (r6 := none) (r7 := none) (S := S) (d := d) gi gw
      show _ = Res.ok (Val.bl (pieB c l w)) S
      unfold pieB
      cases a1 : tupB cOk c with
      | false =>
        rw [a1] at e2
        simp only [evSs, e2, nxif, Bool.false_eq_true, if_false, Out.then_rt]
        rfl
      | true =>
        rw [a1] at e2
        rw [evSs_one e2]
        cases a2 : isWh 1 4 l with
        | false =>
          rw [a2] at e3
          simp only [evSs, e3, nxif, Bool.false_and, Bool.false_eq_true, if_false, Out.then_rt]
          rfl
        | true =>
          rw [a2, Bool.true_and] at e3
          cases a3 : rowB 3 w with
          | false =>
            rw [a3] at e3
            rw [row_no (fun _ h => wOk_len h) a3]
            simp only [evSs, e3, nxif, Bool.false_eq_true, if_false, Out.then_rt]
            rfl
          | true =>
            rw [a3] at e3
            rw [evSs_one e3]
            have e4 := pi4_ok (v := .tup [c, l, w]) (c := c) (l := l) (r4 := none) (r5 := none) (r6 := none) (r7 := none) (S := S) (d := d) gw a3
            cases a4 : tupB wOk w with
            | false =>
              rw [a4] at e4
              simp only [evSs, e4, nxif, Bool.false_eq_true, if_false, Out.then_rt]
              rfl
            | true =>
              rw [a4] at e4
              rw [evSs_one e4]
              obtain ⟨wl, rfl, _⟩ := rowB_ok a3
              obtain ⟨i, rfl, i1, i2⟩ := wh_int a2
              obtain ⟨cl, rfl⟩ : ∃ cl, c = .tup cl := by
                cases c with
                | tup cl => exact ⟨cl, rfl⟩
                | _ => cases a1
              rw [pi57 a1 i1 i2 a4]
              rfl
    · have e : isP (.tup vl) = false := sh3 h
      rw [e]
      have q : ((vl.length : Int) == 3) = false := beq_eq_false_iff_ne.mpr (by omega)
      simp [pi0, isasV, isaV, neII, q]
  | non => kernel_rfl
  | bl _ => kernel_rfl
  | int _ => kernel_rfl
  | str _ => kernel_rfl
  | lst _ => kernel_rfl
  | _ => obtain ⟨n, g⟩ := g; cases n <;> cases g
end LawK53

end
section
set_option linter.all false
set_option maxRecDepth 100000
/-! K53s: the law's own look, of any data. -/
namespace LawK53
open PySem Pi
def cN : List Val → Bool
  | [x] => isNm x
  | [x, y] => isNm x && isNm y
  | _ => false
def wN : List Val → Bool
  | [x] => isWh (-9) 9 x
  | [x, y] => isWh (-9) 9 x && isWh (-9) 9 y
  | [x, y, z] => isWh (-9) 9 x && (isWh (-9) 9 y && isWh (-9) 9 z)
  | _ => false
def wR : List Val → Bool
  | [x, y] => ltI x y
  | [x, y, z] => ltI x y && ltI y z
  | _ => true
theorem eqn (a b : Nat) : ((b : Int) == (a : Int)) = decide (a = b) := by rw [xeq_nat]; by_cases h : a = b <;> simp [h]; omega
theorem nin2 (n : Nat) : cmpV .nin (.int n) (.tup [.int 1, .int 2]) = some (!(decide (n = 1) || decide (n = 2))) := by
  show some (!(((1 : Int) == (n : Int)) || (((2 : Int) == (n : Int)) || false))) = _
  rw [show ((1 : Int) == (n : Int)) = decide (n = 1) from eqn n 1, show ((2 : Int) == (n : Int)) = decide (n = 2) from eqn n 2, Bool.or_false]
theorem nin3 (n : Nat) : cmpV .nin (.int n) (.tup [.int 1, .int 2, .int 3]) = some (!(decide (n = 1) || (decide (n = 2) || decide (n = 3)))) := by
  show some (!(((1 : Int) == (n : Int)) || (((2 : Int) == (n : Int)) || (((3 : Int) == (n : Int)) || false)))) = _
  rw [show ((1 : Int) == (n : Int)) = decide (n = 1) from eqn n 1, show ((2 : Int) == (n : Int)) = decide (n = 2) from eqn n 2, show ((3 : Int) == (n : Int)) = decide (n = 3) from eqn n 3, Bool.or_false]
theorem cN_no {l : List Val} (h1 : l.length ≠ 1) (h2 : l.length ≠ 2) : cN l = false := by
  match l, h1, h2 with
  | [], _, _ => rfl
  | [_], h, _ => exact absurd rfl h
  | [_, _], _, h => exact absurd rfl h
  | _ :: _ :: _ :: _, _, _ => rfl
theorem wN_no {l : List Val} (h1 : l.length ≠ 1) (h2 : l.length ≠ 2) (h3 : l.length ≠ 3) : wN l = false := by
  match l, h1, h2, h3 with
  | [], _, _, _ => rfl
  | [_], h, _, _ => exact absurd rfl h
  | [_, _], _, h, _ => exact absurd rfl h
  | [_, _, _], _, _, h => exact absurd rfl h
  | _ :: _ :: _ :: _ :: _, _, _, _ => rfl
section
variable {v l w : Val} {cl wl : List Val} {r4 r5 r6 r7 r8 : Option Val} {S : Store} {d : Nat}
theorem du2_ok (g : Gd (.tup cl)) (g2 : Gd l) : evS sgL (callF sgL hd.tab (d + 2)) du2 [some v, some (.tup cl), some l, some w, r4, r5, r6, r7, r8] S = nxif (cN cl && isWh 1 4 l) [some v, some (.tup cl), some l, some w, r4, r5, r6, r7, r8] S := by
  have gl := gd_tl g
  have nm : ∀ x ∈ cl, callF sgL hd.tab (d + 2) "_law_is_one" [x] S = .ok (.bl (isNm x)) S := fun x hx => lone_ok (gl x hx) (d + 1) S
  have q := lwhole_ok g2 1 4 (d + 1) S
  have q : callF sgL hd.tab (d + 2) "_law_is_whole" [l, .int 1, .int 4] S = _ := q
  by_cases h : cl.length = 1
  · obtain ⟨x, rfl⟩ := len1 h
    have c1 := nm x (by simp)
    have ni : cmpV .nin (.int 1) (.tup [.int 1, .int 2]) = some false := nin2 1
    cases e1 : isNm x with
    | false =>
      rw [e1] at c1
      simp [du2, ni, itV, compGo, compF, wipeE, Pat.vars, lim, c1, all1, nxif, cN, e1]
    | true =>
      rw [e1] at c1
      cases e2 : isWh 1 4 l with
      | false =>
        rw [e2] at q
        simp [du2, ni, itV, compGo, compF, wipeE, Pat.vars, lim, c1, all1, nxif, cN, e1, q]
      | true =>
        rw [e2] at q
        simp [du2, ni, itV, compGo, compF, wipeE, Pat.vars, lim, c1, all1, nxif, cN, e1, q]
  by_cases h2 : cl.length = 2
  · obtain ⟨x, y, rfl⟩ := len2 h2
    have c1 := nm x (by simp)
    have c2 := nm y (by simp)
    have ni : cmpV .nin (.int 2) (.tup [.int 1, .int 2]) = some false := nin2 2
    cases e1 : isNm x with
    | false =>
      rw [e1] at c1
      simp [du2, ni, itV, compGo, compF, wipeE, Pat.vars, lim, c1, c2, all2, nxif, cN, e1]
    | true =>
      rw [e1] at c1
      cases e3 : isNm y with
      | false =>
        rw [e3] at c2
        simp [du2, ni, itV, compGo, compF, wipeE, Pat.vars, lim, c1, c2, all2, nxif, cN, e1, e3]
      | true =>
        rw [e3] at c2
        cases e2 : isWh 1 4 l with
        | false =>
          rw [e2] at q
          simp [du2, ni, itV, compGo, compF, wipeE, Pat.vars, lim, c1, c2, all2, nxif, cN, e1, e3, q]
        | true =>
          rw [e2] at q
          simp [du2, ni, itV, compGo, compF, wipeE, Pat.vars, lim, c1, c2, all2, nxif, cN, e1, e3, q]
  · have ni := nin2 cl.length
    rw [decide_eq_false h, decide_eq_false h2] at ni
    rw [cN_no h h2]
    simp [du2, ni, nxif]
theorem du3_ok (h : cN cl = true) : evS sgL (callF sgL hd.tab (d + 2)) du3 [some v, some (.tup cl), some l, some w, r4, r5, r6, r7, r8] S = nxif (cOk cl) [some v, some (.tup cl), some l, some w, r4, r5, r6, r7, r8] S := by
  match cl, h with
  | [x], h =>
    have h : isNm x = true := h
    have e : cOk [x] = true := h
    rw [e]
    kernel_rfl
  | [x, y], h =>
    have h : (isNm x && isNm y) = true := h
    rw [Bool.and_eq_true] at h
    obtain ⟨x, rfl⟩ := nm_str h.1
    obtain ⟨y, rfl⟩ := nm_str h.2
    have e : cOk [.str x, .str y] = ltS (.str x) (.str y) := by
      show (isNm _ && (isNm _ && _)) = _
      rw [h.1, h.2]
      rfl
    rw [e]
    have q : cmpV .lt (.str x) (.str y) = some (ltS (.str x) (.str y)) := rfl
    have z : cmpV .eq (.int 2) (.int 2) = some true := rfl
    cases e3 : ltS (.str x) (.str y) with
    | false =>
      rw [e3] at q
      simp [du3, q, z, atI, ixN, nxif]
    | true =>
      rw [e3] at q
      simp [du3, q, z, atI, ixN, nxif]
  | [], h => cases h
  | _ :: _ :: _ :: _, h => cases h
theorem du4_ok (g : Gd (.tup wl)) : evS sgL (callF sgL hd.tab (d + 2)) du4 [some v, some (.tup cl), some l, some (.tup wl), r4, r5, r6, r7, r8] S = nxif (wN wl) [some v, some (.tup cl), some l, some (.tup wl), r4, r5, r6, r7, r8] S := by
  have gl := gd_tl g
  have nm : ∀ x ∈ wl, callF sgL hd.tab (d + 2) "_law_is_whole" [x, .int (-9), .int 9] S = .ok (.bl (isWh (-9) 9 x)) S := fun x hx => lwhole_ok (gl x hx) (-9) 9 (d + 1) S
  by_cases h : wl.length = 1
  · obtain ⟨x, rfl⟩ := len1 h
    have c1 := nm x (by simp)
    have ni : cmpV .nin (.int 1) (.tup [.int 1, .int 2, .int 3]) = some false := nin3 1
    cases e1 : isWh (-9) 9 x with
    | false =>
      rw [e1] at c1
      simp [du4, ni, itV, compGo, compF, wipeE, Pat.vars, lim, c1, all1, nxif, wN, e1]
    | true =>
      rw [e1] at c1
      simp [du4, ni, itV, compGo, compF, wipeE, Pat.vars, lim, c1, all1, nxif, wN, e1]
  by_cases h2 : wl.length = 2
  · obtain ⟨x, y, rfl⟩ := len2 h2
    have c1 := nm x (by simp)
    have c2 := nm y (by simp)
    have ni : cmpV .nin (.int 2) (.tup [.int 1, .int 2, .int 3]) = some false := nin3 2
    cases e1 : isWh (-9) 9 x with
    | false =>
      rw [e1] at c1
      simp [du4, ni, itV, compGo, compF, wipeE, Pat.vars, lim, c1, c2, all2, nxif, wN, e1]
    | true =>
      rw [e1] at c1
      cases e2 : isWh (-9) 9 y with
      | false =>
        rw [e2] at c2
        simp [du4, ni, itV, compGo, compF, wipeE, Pat.vars, lim, c1, c2, all2, nxif, wN, e1, e2]
      | true =>
        rw [e2] at c2
        simp [du4, ni, itV, compGo, compF, wipeE, Pat.vars, lim, c1, c2, all2, nxif, wN, e1, e2]
  by_cases h3 : wl.length = 3
  · obtain ⟨x, y, z, rfl⟩ := len3 h3
    have c1 := nm x (by simp)
    have c2 := nm y (by simp)
    have c3 := nm z (by simp)
    have ni : cmpV .nin (.int 3) (.tup [.int 1, .int 2, .int 3]) = some false := nin3 3
    cases e1 : isWh (-9) 9 x with
    | false =>
      rw [e1] at c1
      simp [du4, ni, itV, compGo, compF, wipeE, Pat.vars, lim, c1, c2, c3, all3, nxif, wN, e1]
    | true =>
      rw [e1] at c1
      cases e2 : isWh (-9) 9 y with
      | false =>
        rw [e2] at c2
        simp [du4, ni, itV, compGo, compF, wipeE, Pat.vars, lim, c1, c2, c3, all3, nxif, wN, e1, e2]
      | true =>
        rw [e2] at c2
        cases e3 : isWh (-9) 9 z with
        | false =>
          rw [e3] at c3
          simp [du4, ni, itV, compGo, compF, wipeE, Pat.vars, lim, c1, c2, c3, all3, nxif, wN, e1, e2, e3]
        | true =>
          rw [e3] at c3
          simp [du4, ni, itV, compGo, compF, wipeE, Pat.vars, lim, c1, c2, c3, all3, nxif, wN, e1, e2, e3]
  · have ni := nin3 wl.length
    rw [decide_eq_false h, decide_eq_false h2, decide_eq_false h3] at ni
    rw [wN_no h h2 h3]
    simp [du4, ni, nxif]
theorem du56 {n : Nat} (hc : cN cl = true) (hi : 1 ≤ n) (hi2 : n ≤ 4) (hw : wN wl = true) :
    evSs sgL (callF sgL hd.tab (d + 2)) [du5, du6] [some v, some (.tup cl), some (.int n), some (.tup wl), none, none, none, none, none] S =
      .nx [some v, some (.tup cl), some (.int n), some (.tup wl), none, none, some (.int ((wl.length ^ (cl.length * (n + 1)) : Nat) : Int)), some (.int ((cl.length * (n + 1) - 1 : Nat) : Int)), none] S := by
  have kk : n = 1 ∨ n = 2 ∨ n = 3 ∨ n = 4 := by omega
  match cl, hc with
  | [x], _ => match wl, hw with
    | [a], _ => rcases kk with rfl | rfl | rfl | rfl <;> kernel_rfl
    | [a, b], _ => rcases kk with rfl | rfl | rfl | rfl <;> kernel_rfl
    | [a, b, c], _ => rcases kk with rfl | rfl | rfl | rfl <;> kernel_rfl
    | [], hw => cases hw
    | _ :: _ :: _ :: _ :: _, hw => cases hw
  | [x, y], _ => match wl, hw with
    | [a], _ => rcases kk with rfl | rfl | rfl | rfl <;> kernel_rfl
    | [a, b], _ => rcases kk with rfl | rfl | rfl | rfl <;> kernel_rfl
    | [a, b, c], _ => rcases kk with rfl | rfl | rfl | rfl <;> kernel_rfl
    | [], hw => cases hw
    | _ :: _ :: _ :: _ :: _, hw => cases hw
  | [], hc => cases hc
  | _ :: _ :: _ :: _, hc => cases hc
theorem du7_ok {p : Int} {c : Val} (hw : wN wl = true) : evS sgL (callF sgL hd.tab (d + 2)) du7 [some v, some c, some l, some (.tup wl), none, none, some (.int p), r7, none] S = .rt (.bl (wR wl && decide (p ≤ 90))) S := by
  have cp : cmpV .le (.int p) (.int 90) = some (decide (p ≤ 90)) := rfl
  match wl, hw with
  | [x], _ =>
    have e : evE sgL (callF sgL hd.tab (d + 2)) [some v, some c, some l, some (.tup [x]), none, none, some (.int p), r7, none] (.bi .all [(.comp 4 [(.lv 3), (.sl (.lv 3) [(.cst (.int 1))] [])] (.tup [(.v 4), (.v 8)]) [] (.cmp .lt (.lv 4) (.lv 8)))]) S = .ok (.bl true) S := by kernel_rfl
    simp only [du7, evS_q11, evE_q8, evAnd_q1, e, evE_q5, evE_q0, evE_q1, List.getElem?_cons_zero, List.getElem?_cons_succ, Res.bind_ok, cp, Option.map_some, Res.of_some, Res.on_ok]
    rfl
  | [x, y], h =>
    have h : (isWh (-9) 9 x && isWh (-9) 9 y) = true := h
    rw [Bool.and_eq_true] at h
    obtain ⟨x, rfl, _⟩ := wh_int h.1
    obtain ⟨y, rfl, _⟩ := wh_int h.2
    have e : evE sgL (callF sgL hd.tab (d + 2)) [some v, some c, some l, some (.tup [.int x, .int y]), none, none, some (.int p), r7, none] (.bi .all [(.comp 4 [(.lv 3), (.sl (.lv 3) [(.cst (.int 1))] [])] (.tup [(.v 4), (.v 8)]) [] (.cmp .lt (.lv 4) (.lv 8)))]) S = .ok (.bl (decide (x < y) && true)) S := by kernel_rfl
    show _ = Out.rt (.bl (decide (x < y) && decide (p ≤ 90))) S
    cases a : decide (x < y) with
    | true =>
      rw [a] at e
      simp only [du7, evS_q11, evE_q8, evAnd_q1, e, Bool.and_true, evE_q5, evE_q0, evE_q1, List.getElem?_cons_zero, List.getElem?_cons_succ, Res.bind_ok, cp, Option.map_some, Res.of_some, Res.on_ok]
      rfl
    | false =>
      rw [a] at e
      simp only [du7, evS_q11, evE_q8, evAnd_q1, e, Bool.and_true, evE_q5, evE_q0, evE_q1, List.getElem?_cons_zero, List.getElem?_cons_succ, Res.bind_ok, Res.on_ok]
      rfl
  | [x, y, z], h =>
    have h : (isWh (-9) 9 x && (isWh (-9) 9 y && isWh (-9) 9 z)) = true := h
    rw [Bool.and_eq_true, Bool.and_eq_true] at h
    obtain ⟨x, rfl, _⟩ := wh_int h.1
    obtain ⟨y, rfl, _⟩ := wh_int h.2.1
    obtain ⟨z, rfl, _⟩ := wh_int h.2.2
    have e : evE sgL (callF sgL hd.tab (d + 2)) [some v, some c, some l, some (.tup [.int x, .int y, .int z]), none, none, some (.int p), r7, none] (.bi .all [(.comp 4 [(.lv 3), (.sl (.lv 3) [(.cst (.int 1))] [])] (.tup [(.v 4), (.v 8)]) [] (.cmp .lt (.lv 4) (.lv 8)))]) S = .ok (.bl (decide (x < y) && (decide (y < z) && true))) S := by kernel_rfl
    show _ = Out.rt (.bl ((decide (x < y) && decide (y < z)) && decide (p ≤ 90))) S
    rw [Bool.and_true] at e
    cases a : (decide (x < y) && decide (y < z)) with
    | true =>
      rw [a] at e
      simp only [du7, evS_q11, evE_q8, evAnd_q1, e, evE_q5, evE_q0, evE_q1, List.getElem?_cons_zero, List.getElem?_cons_succ, Res.bind_ok, cp, Option.map_some, Res.of_some, Res.on_ok]
      rfl
    | false =>
      rw [a] at e
      simp only [du7, evS_q11, evE_q8, evAnd_q1, e, evE_q5, evE_q0, evE_q1, List.getElem?_cons_zero, List.getElem?_cons_succ, Res.bind_ok, Res.on_ok]
      rfl
  | [], h => cases h
  | _ :: _ :: _ :: _ :: _, h => cases h
theorem wOk_eq : ∀ wl : List Val, wOk wl = (wN wl && wR wl)
  | [] => rfl
  | [x] => by show isWh (-9) 9 x = (isWh (-9) 9 x && true); rw [Bool.and_true]
  | [x, y] => by
    show (isWh (-9) 9 x && (isWh (-9) 9 y && ltI x y)) = ((isWh (-9) 9 x && isWh (-9) 9 y) && ltI x y)
    rw [Bool.and_assoc]
  | [x, y, z] => by
    show (isWh (-9) 9 x && (isWh (-9) 9 y && (isWh (-9) 9 z && (ltI x y && ltI y z)))) = ((isWh (-9) 9 x && (isWh (-9) 9 y && isWh (-9) 9 z)) && (ltI x y && ltI y z))
    simp only [Bool.and_assoc]
  | _ :: _ :: _ :: _ :: _ => rfl
theorem cOk_N {cl : List Val} (h : cOk cl = true) : cN cl = true := by
  match cl, h with
  | [x], h => exact h
  | [x, y], h =>
    have h : (isNm x && (isNm y && ltS x y)) = true := h
    rw [Bool.and_eq_true, Bool.and_eq_true] at h
    show (isNm x && isNm y) = true
    rw [h.1, h.2.1]
    rfl
end
theorem isP_no1 {c l w : Val} (h : isasV sgL.eb c [.tup] = some false) : isP (.tup [c, l, w]) = false := by
  have e : tupB cOk c = false := by
    cases c with
    | tup _ => cases h
    | _ => rfl
  show (tupB cOk c && _) = false
  rw [e]
  rfl
theorem isP_no2 {c l w : Val} (h : isasV sgL.eb w [.tup] = some false) : isP (.tup [c, l, w]) = false := by
  have e : tupB wOk w = false := by
    cases w with
    | tup _ => cases h
    | _ => rfl
  show (tupB cOk c && (_ && (tupB wOk w && _))) = false
  rw [e, Bool.false_and, Bool.and_false, Bool.and_false]
theorem isa_tup {v : Val} (g : Gd v) : isasV sgL.eb v [.tup] = some false ∨ ∃ l, v = .tup l := by
  obtain ⟨n, g⟩ := g
  cases v with
  | tup l => exact .inr ⟨l, rfl⟩
  | loc _ => cases n <;> cases g
  | exn _ _ => cases n <;> cases g
  | dct _ _ => cases n <;> cases g
  | _ => exact .inl rfl
theorem due_ok {v : Val} (g : Gd v) (d : Nat) (S : Store) : callF sgL hd.tab (d + 3) "_law_due" [v] S = .ok (.bl (isP v)) S := by
  rw [call_eq t_due rfl, du_eq]
  show finO (evSs sgL (callF sgL hd.tab (d + 2)) [du0, du1, du2, du3, du4, du5, du6, du7] [some v, none, none, none, none, none, none, none, none] S) = _
  cases v with
  | tup vl =>
    by_cases h : vl.length = 3
    · obtain ⟨c, l, w, rfl⟩ := len3 h
      have gl := gd_tl g
      have gc := gl c (by simp)
      have gi := gl l (by simp)
      have gw := gl w (by simp)
      have a0 : isasV sgL.eb (.tup [c, l, w]) [.tup] = some true := rfl
      rcases isa_tup gc with ic | ⟨cl, rfl⟩
      · rw [isP_no1 ic]
        simp [du0, a0, ic, neII, atI, ixN]
      rcases isa_tup gw with iw | ⟨wl, rfl⟩
      · rw [isP_no2 iw]
        have ic : isasV sgL.eb (.tup cl) [.tup] = some true := rfl
        simp [du0, a0, ic, iw, neII, atI, ixN]
      have e01 : evSs sgL (callF sgL hd.tab (d + 2)) [du0, du1] [some (.tup [.tup cl, l, .tup wl]), none, none, none, none, none, none, none, none] S = .nx [some (.tup [.tup cl, l, .tup wl]), some (.tup cl), some l, some (.tup wl), none, none, none, none, none] S := by kernel_rfl
      rw [evSs_two e01]
      have e2 := du2_ok (v := .tup [.tup cl, l, .tup wl]) (w := .tup wl) (r4 := none) (r5 := none) (r6 := none) (r7 := none) (r8 := none) (S := S) (d := d) gc gi
      show _ = Res.ok (Val.bl (cOk cl && (isWh 1 4 l && (wOk wl && capB (.tup cl) l (.tup wl))))) S
      cases a1 : cN cl with
      | false =>
        have a1' : cOk cl = false := by
          cases z : cOk cl with
          | false => rfl
          | true => rw [cOk_N z] at a1; cases a1
        rw [a1] at e2
        rw [a1']
        simp only [evSs, e2, nxif, Bool.false_and, Bool.false_eq_true, if_false, Out.then_rt]
        rfl
      | true =>
        rw [a1, Bool.true_and] at e2
        cases a2 : isWh 1 4 l with
        | false =>
          rw [a2] at e2
          rw [Bool.false_and, Bool.and_false]
          simp only [evSs, e2, nxif, Bool.false_and, Bool.false_eq_true, if_false, Out.then_rt]
          rfl
        | true =>
          rw [a2] at e2
          rw [evSs_one e2]
          have e3 := du3_ok (v := .tup [.tup cl, l, .tup wl]) (l := l) (w := .tup wl) (r4 := none) (r5 := none) (r6 := none) (r7 := none) (r8 := none) (S := S) (d := d) a1
          cases a3 : cOk cl with
          | false =>
            rw [a3] at e3
            simp only [evSs, e3, nxif, Bool.false_and, Bool.false_eq_true, if_false, Out.then_rt]
            rfl
          | true =>
            rw [a3] at e3
            rw [evSs_one e3]
            have e4 := du4_ok (v := .tup [.tup cl, l, .tup wl]) (cl := cl) (l := l) (r4 := none) (r5 := none) (r6 := none) (r7 := none) (r8 := none) (S := S) (d := d) gw
            rw [wOk_eq]
            cases a4 : wN wl with
            | false =>
              rw [a4] at e4
              simp only [evSs, e4, nxif, Bool.false_and, Bool.true_and, Bool.false_eq_true, if_false, Out.then_rt]
              rfl
            | true =>
              rw [a4] at e4
              rw [evSs_one e4]
              obtain ⟨i, rfl, i1, i2⟩ := wh_int a2
              obtain ⟨n, rfl⟩ := Int.eq_ofNat_of_zero_le (show 0 ≤ i by omega)
              have e56 := du56 (v := .tup [.tup cl, .int n, .tup wl]) (S := S) (d := d) a1 (show 1 ≤ n by omega) (by omega) a4
              rw [evSs_two e56]
              have e7 := du7_ok (v := .tup [.tup cl, .int n, .tup wl]) (l := .int n) (c := .tup cl) (r7 := some (.int ((cl.length * (n + 1) - 1 : Nat) : Int))) (S := S) (d := d) (p := ((wl.length ^ (cl.length * (n + 1)) : Nat) : Int)) a4
              simp only [evSs, e7, Out.then_rt]
              have ec : capB (.tup cl) (.int n) (.tup wl) = decide (((wl.length ^ (cl.length * (n + 1)) : Nat) : Int) ≤ 90) := by
                show decide (wl.length ^ (cl.length * (n + 1)) ≤ 90) = _
                by_cases z : wl.length ^ (cl.length * (n + 1)) ≤ 90
                · rw [decide_eq_true z, decide_eq_true (by omega)]
                · rw [decide_eq_false z, decide_eq_false (by omega)]
              rw [ec]
              rfl
    · have e : isP (.tup vl) = false := sh3 h
      rw [e]
      have q : ((vl.length : Int) == 3) = false := beq_eq_false_iff_ne.mpr (by omega)
      simp [du0, isasV, isaV, neII, q]
  | non => kernel_rfl
  | bl _ => kernel_rfl
  | int _ => kernel_rfl
  | str _ => kernel_rfl
  | lst _ => kernel_rfl
  | _ => obtain ⟨n, g⟩ := g; cases n <;> cases g
end LawK53

end
section
set_option linter.all false
set_option maxRecDepth 100000
/-! K53t: odd things, bent things. -/
namespace LawK53
open PySem Pi
def od0 : IS := .asg (.v 2) (.lst [(.cst .non), (.cst (.bl true)), (.cst (.bl false)), (.cst (.int 0)), (.cst (.str "")), (.cst (.str "a")), (.tup []), (.lst []), (.lst [(.lv 1)]), (.tup [(.lv 1)]), (.cst (.str "until")), (.cst (.str "Ab")), (.cst (.int 10)), (.neg (.cst (.int 10))), (.cst (.str "abcdefghi")), (.bin .pow (.cst (.int 10)) (.cst (.int 20)))])
def od1 : IS := .ite (.isa (.lv 1) [.int]) [.asg (.v 2) (.bin .add (.lv 2) (.bin .mul (.lst [(.bin .add (.lv 1) (.cst (.int 1))), (.bin .sub (.lv 1) (.cst (.int 1))), (.bin .add (.lv 1) (.cst (.int 1))), (.bin .sub (.lv 1) (.cst (.int 1))), (.bin .sub (.cst (.int 0)) (.lv 1)), (.bi .str [(.lv 1)])]) (.cst (.int 2))))] []
def od2 : IS := .ite (.isa (.lv 1) [.str]) [.asg (.v 2) (.bin .add (.lv 2) (.lst [(.bin .add (.lv 1) (.cst (.str "z"))), (.sl (.lv 1) [] [(.neg (.cst (.int 1)))]), (.sm0 (.lv 1)), (.bin .add (.lv 1) (.cst (.str " "))), (.cst (.str "always")), (.cst (.str "sometimes"))]))] []
def od3 : IS := .ret (.call "_law_one_of" [(.lv 0), (.lv 2)])
theorem od_eq : fn__law_odd.body = [od0, od1, od2, od3] := rfl
def bq0 : IS := .asg (.v 2) (.call "_law_take" [(.lv 0), (.cst (.int 8))])
def bq1 : IS := .ite (.or [(.not (.isa (.lv 1) [.lst, .tup])), (.cmp .eq (.bi .len [(.lv 1)]) (.cst (.int 0))), (.cmp .eq (.lv 2) (.cst (.int 0)))]) [.ret (.call "_law_odd" [(.lv 0), (.lv 1)])] []
def bq2 : IS := .par [(3, true), (4, false)] [(.bi .list [(.lv 1)]), (.call "_law_take" [(.lv 0), (.bi .len [(.lv 1)])])]
def bq3 : IS := .ite (.cmp .eq (.lv 2) (.cst (.int 1))) [.share 3, .ret (.lv 3)] []
def bq4 : IS := .ite (.cmp .gt (.lv 2) (.cst (.int 4))) [.setL 3 (.lv 4) (.call "_law_bent" [(.lv 0), (.ix (.lv 3) (.lv 4))])] [.asg (.v 3) (.ix (.lst [(.bin .add (.sl (.lv 3) [] [(.lv 4)]) (.sl (.lv 3) [(.bin .add (.lv 4) (.cst (.int 1)))] [])), (.bin .add (.lv 3) (.sl (.lv 3) [(.lv 4)] [(.bin .add (.lv 4) (.cst (.int 1)))])), (.bin .add (.bin .add (.sl (.lv 3) [] [(.lv 4)]) (.rev (.sl (.lv 3) [(.lv 4)] [(.bin .add (.lv 4) (.cst (.int 2)))]))) (.sl (.lv 3) [(.bin .add (.lv 4) (.cst (.int 2)))] []))]) (.bin .sub (.lv 2) (.cst (.int 2))))]
def bq5 : IS := .ret (.ite (.isa (.lv 1) [.tup]) (.bi .tuple [(.lv 3)]) (.lv 3))
theorem bq_eq : fn__law_bent.body = [bq0, bq1, bq2, bq3, bq4, bq5] := rfl
theorem t_take : hd.tab "_law_take" = some Co.fn__law_take := rfl
theorem t_one : hd.tab "_law_one_of" = some Co.fn__law_one_of := rfl
theorem t_odd : hd.tab "_law_odd" = some fn__law_odd := rfl
theorem t_bent : hd.tab "_law_bent" = some fn__law_bent := rfl
theorem dts_rev {B n K : Nat} {l : List Val} (h : Dts B n K l) : Dts B n K l.reverse := by
  refine ⟨fun x hx => h.a x (List.mem_reverse.mp hx), ?_⟩
  have e : tot (dtV B n) l.reverse = tot (dtV B n) l := by
    unfold tot
    rw [List.map_reverse, List.sum_reverse]
  rw [e]
  exact h.t
theorem dts_cut {B n K : Nat} {l : List Val} (h : Dts B n K l) (a b : Option Int) : Dts B n K (cutL l a b) := (h.drop _).take _
def odA (v : Val) : List Val := [.non, .bl true, .bl false, .int 0, .str "", .str "a", .tup [], .lst [], .lst [v], .tup [v], .str "until", .str "Ab", .int 10, .int (-10), .str "abcdefghi", .int 100000000000000000000]
def inN (i : Int) (s : Str) : List Val := [.int (i + 1), .int (i - 1), .int (i + 1), .int (i - 1), .int (0 - i), .str s]
def stN (x : Str) : List Val := [.str (x ++ "z"), .str ⟨(cutL x.cps.toList none (some (-1))).toArray⟩, .str (Txt.upper x), .str (x ++ " "), .str "always", .str "sometimes"]
section
variable {B N K : Nat} {v : Val}
theorem dt_lit {n : Nat} {x : Str} (h : x.length ≤ 9) (h2 : ascB x = true) : Dt B n 92 (.str x) := (dt_strL (by omega) h2).up (by omega)
theorem odA_dt (hB : 100000000000000000000 ≤ B) (h : Dt B N K v) : ∀ x ∈ odA v, Dt (B + 1) (N + 1) (K + 2010) x := by
  intro x hx
  have one : Dts B N (K + 2) [v] := (dts_cons h dts_nil).up (Nat.le_refl _) (Nat.le_refl _) (by omega)
  simp only [odA, List.mem_cons, List.not_mem_nil, or_false] at hx
  rcases hx with rfl | rfl | rfl | rfl | rfl | rfl | rfl | rfl | rfl | rfl | rfl | rfl | rfl | rfl | rfl | rfl
  · exact dt_non.up (by omega)
  · exact dt_bl.up (by omega)
  · exact dt_bl.up (by omega)
  · exact (dt_int (by show 0 ≤ _; omega)).up (by omega)
  · exact (dt_lit (by decide +kernel) (by decide +kernel)).up (by omega)
  · exact (dt_lit (by decide +kernel) (by decide +kernel)).up (by omega)
  · exact (dt_tup (dts_nil (B := B + 1) (n := N))).up (by omega)
  · exact (dt_lst (dts_nil (B := B + 1) (n := N))).up (by omega)
  · exact (dt_lst one).mono (by omega) (Nat.le_refl _) (by omega)
  · exact (dt_tup one).mono (by omega) (Nat.le_refl _) (by omega)
  · exact (dt_lit (by decide +kernel) (by decide +kernel)).up (by omega)
  · exact (dt_lit (by decide +kernel) (by decide +kernel)).up (by omega)
  · exact (dt_int (by show 10 ≤ _; omega)).up (by omega)
  · exact (dt_int (by show 10 ≤ _; omega)).up (by omega)
  · exact (dt_lit (by decide +kernel) (by decide +kernel)).up (by omega)
  · exact (dt_int (by show 100000000000000000000 ≤ _; omega)).up (by omega)
theorem inN_dt {i : Int} {s : Str} (hi : i.natAbs ≤ B) (hs : Dt (B + 1) (N + 1) 2000 (.str s)) : ∀ x ∈ inN i s, Dt (B + 1) (N + 1) (K + 2010) x := by
  intro x hx
  simp only [inN, List.mem_cons, List.not_mem_nil, or_false] at hx
  rcases hx with rfl | rfl | rfl | rfl | rfl | rfl
  · exact (dt_int (by omega)).up (by omega)
  · exact (dt_int (by omega)).up (by omega)
  · exact (dt_int (by omega)).up (by omega)
  · exact (dt_int (by omega)).up (by omega)
  · exact (dt_int (by omega)).up (by omega)
  · exact hs.up (by omega)
theorem stN_dt {x : Str} (hK : K ≤ 9000) (h : Dt B N K (.str x)) : ∀ y ∈ stN x, Dt (B + 1) (N + 1) (K + 2010) y := by
  obtain ⟨h1, h2, h3⟩ := str_dt h
  have ap : ∀ (y z : Str), (y ++ z).length = y.length + z.length := fun y z => by
    show (y.cps ++ z.cps).size = _
    rw [Array.size_append]
    rfl
  have lz : ("z" : Str).length = 1 := by decide +kernel
  have lb : (" " : Str).length = 1 := by decide +kernel
  have u := up_of h3
  intro y hy
  simp only [stN, List.mem_cons, List.not_mem_nil, or_false] at hy
  rcases hy with rfl | rfl | rfl | rfl | rfl | rfl
  · have e := ap x "z"
    exact (dt_strL (by omega) (asc_app h3 (by decide +kernel))).up (by omega)
  · have q : (cutL x.cps.toList none (some (-1))).length ≤ x.length := by
      show ((x.cps.toList.drop _).take _).length ≤ _
      rw [List.length_take, List.length_drop, Array.length_toList]
      have : x.cps.size = x.length := rfl
      omega
    have l : (⟨(cutL x.cps.toList none (some (-1))).toArray⟩ : Str).length = (cutL x.cps.toList none (some (-1))).length := by
      show (List.toArray _).size = _
      simp
    exact (dt_strL (by omega) (asc_sub h3 fun c hc => List.mem_of_mem_drop (List.mem_of_mem_take (show c ∈ cutL x.cps.toList none (some (-1)) from hc)))).up (by omega)
  · exact (dt_strL (by omega) u.2).up (by omega)
  · have e := ap x " "
    exact (dt_strL (by omega) (asc_app h3 (by decide +kernel))).up (by omega)
  · exact (dt_lit (by decide +kernel) (by decide +kernel)).up (by omega)
  · exact (dt_lit (by decide +kernel) (by decide +kernel)).up (by omega)
end
section
variable {n m : Nat} {S : Store} {B N K : Nat}
theorem od0_ok (d : Nat) (v : Val) : evS sgL (callF sgL hd.tab d) od0 [some (.loc n), some v, none] S = .nx [some (.loc n), some v, some (.lst (odA v))] S := by kernel_rfl
theorem addL' {a b : List Val} (h : a.length + b.length ≤ 64) : binV .add (.lst a) (.lst b) = some (.lst (a ++ b)) := bv_addL (Nat.le_trans h (by decide))
theorem mul2 {l : List Val} (h : l.length = 6) : binV .mul (.lst l) (.int 2) = some (.lst (l ++ l)) := by
  show (if -(2 ^ 63) ≤ (2 : Int) ∧ (2 : Int) < 2 ^ 63 ∧ l.length * 2 ≤ lim then some (Val.lst (List.replicate 2 l).flatten) else none) = _
  rw [if_pos ⟨by omega, by omega, by rw [h]; decide⟩]
  congr 2
  simp [List.replicate]
/-- what is chosen from -/
theorem od_list (hB : 100000000000000000000 ≤ B) (hB2 : B < 10 ^ 100) {v : Val} (hK : K ≤ 9000) (h : Dt B N K v) (d : Nat) :
    ∃ L, evSs sgL (callF sgL hd.tab d) [od0, od1, od2] [some (.loc n), some v, none] S = .nx [some (.loc n), some v, some (.lst L)] S ∧ (∀ x ∈ L, Dt (B + 1) (N + 1) (K + 2010) x) ∧ 0 < L.length ∧ L.length ≤ 64 := by
  have a := odA_dt hB h
  have e0 := od0_ok (n := n) (S := S) d v
  rw [evSs_one e0]
  have la : (odA v).length = 16 := rfl
  have isI : ∀ w, isasV sgL.eb (.int w) [.int] = some true := fun _ => rfl
  have isB : ∀ w, isasV sgL.eb (.bl w) [.int] = some true := fun _ => rfl
  have isI' : ∀ w, isasV sgL.eb (.int w) [.str] = some false := fun _ => rfl
  have isB' : ∀ w, isasV sgL.eb (.bl w) [.str] = some false := fun _ => rfl
  have num : ∀ (i : Int) (s : Str), i.natAbs ≤ B → Dt (B + 1) (N + 1) 2000 (.str s) → isasV sgL.eb v [.int] = some true → isasV sgL.eb v [.str] = some false → binV .add v (.int 1) = some (.int (i + 1)) → binV .sub v (.int 1) = some (.int (i - 1)) →
      binV .sub (.int 0) v = some (.int (0 - i)) → (∀ S, biV S .str [v] = some (.str s)) → ∃ L, evSs sgL (callF sgL hd.tab d) [od1, od2] [some (.loc n), some v, some (.lst (odA v))] S = .nx [some (.loc n), some v, some (.lst L)] S ∧ (∀ x ∈ L, Dt (B + 1) (N + 1) (K + 2010) x) ∧ 0 < L.length ∧ L.length ≤ 64 := by
    intro i s hi hs q1 q2 f1 f2 f3 f4
    have b := inN_dt (K := K) hi hs
    have m2 := mul2 (l := inN i s) rfl
    have ad := addL' (a := odA v) (b := inN i s ++ inN i s) (by rw [la, List.length_append]; show 16 + (6 + 6) ≤ 64; omega)
    refine ⟨odA v ++ (inN i s ++ inN i s), ?_, fun x hx => ?_, by rw [List.length_append, la]; omega, by rw [List.length_append, la, List.length_append]; show 16 + (6 + 6) ≤ 64; omega⟩
    · have e1 : evS sgL (callF sgL hd.tab d) od1 [some (.loc n), some v, some (.lst (odA v))] S = .nx [some (.loc n), some v, some (.lst (odA v ++ (inN i s ++ inN i s)))] S := by
        have m2 : binV .mul (.lst [.int (i + 1), .int (i - 1), .int (i + 1), .int (i - 1), .int (0 - i), .str s]) (.int 2) = _ := m2
        simp -implicitDefEqProofs only [od1, evS_q13, evT_q, evE_q21, evE_q3, evE_q12, evE_q18, evEs_q0, evEs_q1, evE_q0, evE_q1, List.getElem?_cons_zero, List.getElem?_cons_succ, Res.bind_ok, q1, Option.map_some, Res.of_some, tru_bl, Res.on_ok, if_true, f1, f2, f3, f4, m2, ad, evSs, evS_q1, bindP, setE, List.set_cons_zero, List.set_cons_succ, Out.then_nx]
      have e2 : evS sgL (callF sgL hd.tab d) od2 [some (.loc n), some v, some (.lst (odA v ++ (inN i s ++ inN i s)))] S = .nx [some (.loc n), some v, some (.lst (odA v ++ (inN i s ++ inN i s)))] S := by
        simp -implicitDefEqProofs only [od2, evS_q13, evT_q, evE_q21, evE_q0, List.getElem?_cons_zero, List.getElem?_cons_succ, Res.bind_ok, q2, Option.map_some, Res.of_some, tru_bl, Res.on_ok, Bool.false_eq_true, if_false, evSs]
      rw [evSs_one e1, evSs_one e2]
      rfl
    · rcases List.mem_append.mp hx with hx | hx
      · exact a x hx
      · rcases List.mem_append.mp hx with hx | hx
        · exact b x hx
        · exact b x hx
  have oth : isasV sgL.eb v [.int] = some false → isasV sgL.eb v [.str] = some false → ∃ L, evSs sgL (callF sgL hd.tab d) [od1, od2] [some (.loc n), some v, some (.lst (odA v))] S = .nx [some (.loc n), some v, some (.lst L)] S ∧ (∀ x ∈ L, Dt (B + 1) (N + 1) (K + 2010) x) ∧ 0 < L.length ∧ L.length ≤ 64 := by
    intro q1 q2
    refine ⟨odA v, ?_, a, by rw [la]; omega, by rw [la]; omega⟩
    have e1 : evS sgL (callF sgL hd.tab d) od1 [some (.loc n), some v, some (.lst (odA v))] S = .nx [some (.loc n), some v, some (.lst (odA v))] S := by
      simp -implicitDefEqProofs only [od1, evS_q13, evT_q, evE_q21, evE_q0, List.getElem?_cons_zero, List.getElem?_cons_succ, Res.bind_ok, q1, Option.map_some, Res.of_some, tru_bl, Res.on_ok, Bool.false_eq_true, if_false, evSs]
    have e2 : evS sgL (callF sgL hd.tab d) od2 [some (.loc n), some v, some (.lst (odA v))] S = .nx [some (.loc n), some v, some (.lst (odA v))] S := by
      simp -implicitDefEqProofs only [od2, evS_q13, evT_q, evE_q21, evE_q0, List.getElem?_cons_zero, List.getElem?_cons_succ, Res.bind_ok, q2, Option.map_some, Res.of_some, tru_bl, Res.on_ok, Bool.false_eq_true, if_false, evSs]
    rw [evSs_one e1, evSs_one e2]
    rfl
  cases v with
  | int i =>
    have hi := int_dt h
    have lg := log_ok (Nat.lt_of_le_of_lt hi hB2)
    exact num i (Str.ofString (toString i)) hi (dt_istr (Nat.lt_of_le_of_lt hi hB2)) rfl rfl rfl rfl rfl fun S => if_pos lg
  | bl b =>
    exact num (if b then 1 else 0) (if b then "True" else "False") (by cases b <;> simp; omega) (by cases b <;> exact (dt_lit (by decide +kernel) (by decide +kernel)).up (by omega)) rfl rfl rfl rfl rfl fun S => rfl
  | str x =>
    have b := stN_dt hK h
    obtain ⟨h1, h2, h3⟩ := str_dt h
    have u := up_of h3
    have ad := addL' (a := odA (.str x)) (b := stN x) (by rw [la]; show 16 + 6 ≤ 64; omega)
    refine ⟨odA (.str x) ++ stN x, ?_, fun y hy => ?_, by rw [List.length_append, la]; omega, by rw [List.length_append, la]; show 16 + 6 ≤ 64; omega⟩
    · have q1 : isasV sgL.eb (.str x) [.int] = some false := rfl
      have q2 : isasV sgL.eb (.str x) [.str] = some true := rfl
      have lz : ("z" : Str).length = 1 := by decide +kernel
      have lb : (" " : Str).length = 1 := by decide +kernel
      have f1 : binV .add (.str x) (.str "z") = some (.str (x ++ "z")) := bv_addS (by rw [lz]; show _ ≤ 16777216; omega)
      have f2 : binV .add (.str x) (.str " ") = some (.str (x ++ " ")) := bv_addS (by rw [lb]; show _ ≤ 16777216; omega)
      have f3 : slV S (.str x) none (some (-1)) = some (.str ⟨(cutL x.cps.toList none (some (-1))).toArray⟩) := rfl
      have f4 : x.length ≤ 5592405 ∧ okS (Txt.upper x) = true := ⟨by omega, by
        unfold okS
        rw [Bool.and_eq_true]
        exact ⟨decide_eq_true (by show _ ≤ 16777216; omega), asc_sok u.2⟩⟩
      have ad : binV .add (.lst (odA (.str x))) (.lst [.str (x ++ "z"), .str ⟨(cutL x.cps.toList none (some (-1))).toArray⟩, .str (Txt.upper x), .str (x ++ " "), .str "always", .str "sometimes"]) = _ := ad
      have e1 : evS sgL (callF sgL hd.tab d) od1 [some (.loc n), some (.str x), some (.lst (odA (.str x)))] S = .nx [some (.loc n), some (.str x), some (.lst (odA (.str x)))] S := by
        simp -implicitDefEqProofs only [od1, evS_q13, evT_q, evE_q21, evE_q0, List.getElem?_cons_zero, List.getElem?_cons_succ, Res.bind_ok, q1, Option.map_some, Res.of_some, tru_bl, Res.on_ok, Bool.false_eq_true, if_false, evSs]
      have e2 : evS sgL (callF sgL hd.tab d) od2 [some (.loc n), some (.str x), some (.lst (odA (.str x)))] S = .nx [some (.loc n), some (.str x), some (.lst (odA (.str x) ++ stN x))] S := by
        simp -implicitDefEqProofs only [od2, evS_q13, evT_q, evE_q21, evE_q3, evE_q4, evE_q12, evE_q15, evE_q31, evO_q0, evO_q1, evEs_q0, evEs_q1, evE_q0, evE_q1, List.getElem?_cons_zero, List.getElem?_cons_succ, Res.bind_ok, q2, Option.map_some, Res.of_some, tru_bl, Res.on_ok, if_true, f1, f2, f3, if_pos f4, ad, evSs, evS_q1, bindP, setE, List.set_cons_zero, List.set_cons_succ, Out.then_nx]
      rw [evSs_one e1, evSs_one e2]
      rfl
    · rcases List.mem_append.mp hy with hy | hy
      · exact a y hy
      · exact b y hy
  | non => exact oth rfl rfl
  | tup _ => exact oth rfl rfl
  | lst _ => exact oth rfl rfl
  | loc _ => obtain ⟨k, e, _⟩ := h; cases N <;> cases e
  | exn _ _ => obtain ⟨k, e, _⟩ := h; cases N <;> cases e
  | dct _ _ => obtain ⟨k, e, _⟩ := h; cases N <;> cases e
theorem odd_ok (b : Box S n m) (hm : m < 900000) (hB : 100000000000000000000 ≤ B) (hB2 : B < 10 ^ 100) {v : Val} (hK : K ≤ 9000) (h : Dt B N K v) (d : Nat) :
    ∃ (v' : Val) (S' : Store), callF sgL hd.tab (d + 3) "_law_odd" [.loc n, v] S = .ok v' S' ∧ Dt (B + 1) (N + 1) (K + 2010) v' ∧ Box S' n (m + 1) ∧ Same n S S' := by
  obtain ⟨L, e, a, l0, l1⟩ := od_list (n := n) (S := S) hB hB2 hK h (d + 2)
  obtain ⟨r, x, S', c, hr, b', s'⟩ := oneof_ok (sg := sgL) t_take t_one b hm (l := L) l0 (by omega) d
  refine ⟨x, S', ?_, a x (List.mem_of_getElem? hr), b', s'⟩
  rw [call_eq t_odd rfl, od_eq]
  show finO (evSs sgL (callF sgL hd.tab (d + 2)) ([od0, od1, od2] ++ [od3]) [some (.loc n), some v, none] S) = _
  rw [evSs_app e]
  simp -implicitDefEqProofs only [od3, evSs, evS_q11, evE_q16, evEs_q0, evEs_q1, evE_q0, List.getElem?_cons_zero, List.getElem?_cons_succ, Res.bind_ok, c, Res.on_ok, Out.then_rt]
  rfl
end
end LawK53

end
section
set_option linter.all false
set_option maxRecDepth 100000
/-! K53u: bent. -/
namespace LawK53
open PySem Pi
variable {n m : Nat} {S : Store} {B N K : Nat}
def bC : IE := .or [(.not (.isa (.lv 1) [.lst, .tup])), (.cmp .eq (.bi .len [(.lv 1)]) (.cst (.int 0))), (.cmp .eq (.lv 2) (.cst (.int 0)))]
theorem bq1_eq : bq1 = .ite bC [.ret (.call "_law_odd" [(.lv 0), (.lv 1)])] [] := rfl
def bSet : List IS := [.setL 3 (.lv 4) (.call "_law_bent" [(.lv 0), (.ix (.lv 3) (.lv 4))])]
def bPick : List IS := [.asg (.v 3) (.ix (.lst [(.bin .add (.sl (.lv 3) [] [(.lv 4)]) (.sl (.lv 3) [(.bin .add (.lv 4) (.cst (.int 1)))] [])), (.bin .add (.lv 3) (.sl (.lv 3) [(.lv 4)] [(.bin .add (.lv 4) (.cst (.int 1)))])), (.bin .add (.bin .add (.sl (.lv 3) [] [(.lv 4)]) (.rev (.sl (.lv 3) [(.lv 4)] [(.bin .add (.lv 4) (.cst (.int 2)))]))) (.sl (.lv 3) [(.bin .add (.lv 4) (.cst (.int 2)))] []))]) (.bin .sub (.lv 2) (.cst (.int 2))))]
theorem bq4_eq : bq4 = .ite (.cmp .gt (.lv 2) (.cst (.int 4))) bSet bPick := rfl
theorem cwn (w k : Nat) : cmpV .eq (.int (w : Int)) (.int (k : Int)) = some (decide (w = k)) := by
  show some ((w : Int) == (k : Int)) = _
  rw [xeq_nat]
theorem cwg (w k : Nat) : cmpV .gt (.int (w : Int)) (.int (k : Int)) = some (decide (k < w)) := by
  show some (decide ((k : Int) < (w : Int))) = _
  by_cases h : k < w
  · rw [decide_eq_true h, decide_eq_true (by omega)]
  · rw [decide_eq_false h, decide_eq_false (by omega)]
theorem bC_sc {v : Val} (h : isasV sgL.eb v [.lst, .tup] = some false) (cf : String → List Val → Store → Res Val) (r0 r2 r3 r4 : Option Val) (S : Store) : evT sgL cf [r0, some v, r2, r3, r4] bC S = .ok true S := by
  simp [bC, h]
theorem bC_nil (b : Bool) (cf : String → List Val → Store → Res Val) (r0 r2 r3 r4 : Option Val) (S : Store) : evT sgL cf [r0, some (mk b []), r2, r3, r4] bC S = .ok true S := by
  have h := mk_isa sgL.eb b []
  have l := mk_len S b []
  have e : cmpV .eq (.int (([] : List Val).length : Nat)) (.int 0) = some true := rfl
  simp only [bC, evT_q, evE_q9, evOr_q1, evE_q7, evE_q21, evE_q5, evE_q18, evEs_q0, evEs_q1, evE_q0, evE_q1, List.getElem?_cons_zero, List.getElem?_cons_succ, Res.bind_ok, Res.of_some, Option.map_some, h, tru_bl, l, e, Bool.not_true]
theorem bC_ne (b : Bool) {l : List Val} (hl : l ≠ []) (cf : String → List Val → Store → Res Val) (r0 r3 r4 : Option Val) (w : Nat) (S : Store) :
    evT sgL cf [r0, some (mk b l), some (.int w), r3, r4] bC S = .ok (decide (w = 0)) S := by
  have h := mk_isa sgL.eb b l
  have k := mk_len S b l
  have z := cwn l.length 0
  rw [decide_eq_false (fun q => hl (List.length_eq_zero_iff.mp q))] at z
  have z : cmpV .eq (.int l.length) (.int 0) = some false := z
  have e : cmpV .eq (.int w) (.int 0) = some (decide (w = 0)) := cwn w 0
  simp only [bC, evT_q, evE_q9, evOr_q1, evE_q7, evE_q21, evE_q5, evE_q18, evEs_q0, evEs_q1, evE_q0, evE_q1, List.getElem?_cons_zero, List.getElem?_cons_succ, Res.bind_ok, Res.of_some, Option.map_some, h, tru_bl, k, z, e, Bool.not_true]
theorem bq5_ok (b : Bool) (l l' : List Val) (cf : String → List Val → Store → Res Val) (r0 r2 r4 : Option Val) (S : Store) : evSs sgL cf [bq5] [r0, some (mk b l), r2, some (.lst l'), r4] S = .rt (mk b l') S := by
  cases b <;> kernel_rfl
theorem ev_iteL {cf : String → List Val → Store → Res Val} {c : IE} {a b : List IS} {ρ : Pi.Env} {S S' : Store} {k : Bool} (h : evT sgL cf ρ c S = .ok k S') : evS sgL cf (.ite c a b) ρ S = if k then evSs sgL cf a ρ S' else evSs sgL cf b ρ S' := by
  rw [evS_q13, h, Res.on_ok]
theorem pick_ok {l : List Val} (h : Dts B N K l) (hK : K ≤ 1000000) (j w : Nat) (h2 : 2 ≤ w) (h4 : w ≤ 4) (cf : String → List Val → Store → Res Val) (r0 r1 : Option Val) (S : Store) :
    ∃ l', evSs sgL cf bPick [r0, r1, some (.int w), some (.lst l), some (.int j)] S = .nx [r0, r1, some (.int w), some (.lst l'), some (.int j)] S ∧ Dts B N (3 * K) l' := by
  have X := dts_cut h none (some (j : Int))
  have Y := dts_cut h (some ((j : Int) + 1)) none
  have Z := dts_cut h (some (j : Int)) (some ((j : Int) + 1))
  have U := dts_rev (dts_cut h (some (j : Int)) (some ((j : Int) + 2)))
  have V := dts_cut h (some ((j : Int) + 2)) none
  have A := X.app Y
  have Bq := h.app Z
  have XU := X.app U
  have C := XU.app V
  have f1 : binV .add (.lst (cutL l none (some (j : Int)))) (.lst (cutL l (some ((j : Int) + 1)) none)) = some (.lst (cutL l none (some (j : Int)) ++ cutL l (some ((j : Int) + 1)) none)) := bv_addL (by
    have := dt_len A
    rw [List.length_append] at this
    show _ ≤ 16777216
    omega)
  have f2 : binV .add (.lst l) (.lst (cutL l (some (j : Int)) (some ((j : Int) + 1)))) = some (.lst (l ++ cutL l (some (j : Int)) (some ((j : Int) + 1)))) := bv_addL (by
    have := dt_len Bq
    rw [List.length_append] at this
    show _ ≤ 16777216
    omega)
  have f3 : binV .add (.lst (cutL l none (some (j : Int)))) (.lst (cutL l (some (j : Int)) (some ((j : Int) + 2))).reverse) = some (.lst (cutL l none (some (j : Int)) ++ (cutL l (some (j : Int)) (some ((j : Int) + 2))).reverse)) := bv_addL (by
    have := dt_len XU
    rw [List.length_append] at this
    show _ ≤ 16777216
    omega)
  have f4 : binV .add (.lst (cutL l none (some (j : Int)) ++ (cutL l (some (j : Int)) (some ((j : Int) + 2))).reverse)) (.lst (cutL l (some ((j : Int) + 2)) none)) = some (.lst ((cutL l none (some (j : Int)) ++ (cutL l (some (j : Int)) (some ((j : Int) + 2))).reverse) ++ cutL l (some ((j : Int) + 2)) none)) := bv_addL (by
    have := dt_len C
    rw [List.length_append] at this
    show _ ≤ 16777216
    omega)
  have go : ∀ l', atI [Val.lst (cutL l none (some (j : Int)) ++ cutL l (some ((j : Int) + 1)) none), .lst (l ++ cutL l (some (j : Int)) (some ((j : Int) + 1))), .lst ((cutL l none (some (j : Int)) ++ (cutL l (some (j : Int)) (some ((j : Int) + 2))).reverse) ++ cutL l (some ((j : Int) + 2)) none)] ((w : Int) - 2) = some (.lst l') →
      evSs sgL cf bPick [r0, r1, some (.int w), some (.lst l), some (.int j)] S = .nx [r0, r1, some (.int w), some (.lst l'), some (.int j)] S := fun l' e => by
    simp -implicitDefEqProofs only [bPick, evSs, evS_q1, evE_q3, evE_q12, evE_q14, evE_q15, evE_q32, evO_q0, evO_q1, evEs_q0, evEs_q1, evE_q0, evE_q1, List.getElem?_cons_zero, List.getElem?_cons_succ, Res.bind_ok, Res.of_some, sl_l, bv_addI, bv_subI, f1, f2, f3, f4, ix_l, e, Res.on_ok, bindP, setE, List.set_cons_zero, List.set_cons_succ, Out.then_nx]
  have w3 : w = 2 ∨ w = 3 ∨ w = 4 := by omega
  rcases w3 with rfl | rfl | rfl
  · exact ⟨_, go _ rfl, A.up (Nat.le_refl _) (Nat.le_refl _) (by omega)⟩
  · exact ⟨_, go _ rfl, Bq.up (Nat.le_refl _) (Nat.le_refl _) (by omega)⟩
  · exact ⟨_, go _ rfl, C.up (Nat.le_refl _) (Nat.le_refl _) (by omega)⟩
theorem bent_ok (hB : 100000000000000000000 ≤ B) (hB2 : B < 10 ^ 100) : ∀ (N K : Nat) (v : Val), Dt B N K v → K ≤ 9000 → ∀ (m d : Nat) (S : Store), Box S n m → m + 3 * (N + 1) < 800000 → N + 5 ≤ d →
    ∃ (v' : Val) (S' : Store), callF sgL hd.tab d "_law_bent" [.loc n, v] S = .ok v' S' ∧ Dt (B + 1) (N + 1) ((N + 3) * K + 2010 + 5 * N) v' ∧ Box S' n (m + 3 * (N + 1)) ∧ Same n S S' := by
  intro N
  induction N with
  | zero =>
    intro K v hv hK m d S b hm hdd
    obtain ⟨d, rfl⟩ : ∃ k, d = k + 4 := ⟨d - 4, by omega⟩
    have his : isasV sgL.eb v [.lst, .tup] = some false := by
      obtain ⟨k, e, _⟩ := hv
      cases v <;> first | rfl | cases e
    obtain ⟨w, S1, c1, hw, b1, s1⟩ := draw (sg := sgL) (d := d + 2) t_take b (by omega) 8 (by omega) (by omega)
    have c1 : callF sgL hd.tab (d + 3) "_law_take" [.loc n, .int 8] S = .ok (.int w) S1 := c1
    obtain ⟨v', S', g1, g2, g3, g4⟩ := odd_ok b1 (by omega) hB hB2 hK hv d
    refine ⟨v', S', ?_, g2.up (by omega), g3.mono (by omega), s1.trans g4⟩
    have sc := bC_sc his (callF sgL hd.tab (d + 3)) (some (.loc n)) (some (.int w)) none none S1
    rw [call_eq t_bent rfl, bq_eq]
    show finO (evSs sgL (callF sgL hd.tab (d + 3)) [bq0, bq1, bq2, bq3, bq4, bq5] [some (.loc n), some v, none, none, none] S) = _
    have e0 : evS sgL (callF sgL hd.tab (d + 3)) bq0 [some (.loc n), some v, none, none, none] S = .nx [some (.loc n), some v, some (.int w), none, none] S1 := by
      simp -implicitDefEqProofs only [bq0, evS_q1, evE_q16, evEs_q0, evEs_q1, evE_q0, evE_q1, List.getElem?_cons_zero, List.getElem?_cons_succ, Res.bind_ok, c1, Res.on_ok, bindP, setE, List.set_cons_zero, List.set_cons_succ]
    rw [evSs_one e0]
    simp -implicitDefEqProofs only [evSs, bq1_eq, evS_q13, sc, Res.on_ok, if_true, evS_q11, evE_q16, evEs_q0, evEs_q1, evE_q0, List.getElem?_cons_zero, List.getElem?_cons_succ, Res.bind_ok, g1, Out.then_rt]
    rfl
  | succ N ih =>
    intro K v hv hK m d S b hm hdd
    have mk1 : (N + 3) * K ≥ 3 * K := Nat.mul_le_mul_right K (by omega)
    have mk2 : (N + 1 + 3) * K = (N + 3) * K + K := by rw [show N + 1 + 3 = (N + 3) + 1 by omega, Nat.add_mul, Nat.one_mul]
    have mk3 : (N + 3) * (K - 3) ≤ (N + 3) * K := Nat.mul_le_mul_left _ (by omega)
    obtain ⟨d, rfl⟩ : ∃ k, d = k + 4 := ⟨d - 4, by omega⟩
    obtain ⟨w, S1, c1, hw, b1, s1⟩ := draw (sg := sgL) (d := d + 2) t_take b (by omega) 8 (by omega) (by omega)
    have c1 : callF sgL hd.tab (d + 3) "_law_take" [.loc n, .int 8] S = .ok (.int w) S1 := c1
    have e0 : evS sgL (callF sgL hd.tab (d + 3)) bq0 [some (.loc n), some v, none, none, none] S = .nx [some (.loc n), some v, some (.int w), none, none] S1 := by
      simp -implicitDefEqProofs only [bq0, evS_q1, evE_q16, evEs_q0, evEs_q1, evE_q0, evE_q1, List.getElem?_cons_zero, List.getElem?_cons_succ, Res.bind_ok, c1, Res.on_ok, bindP, setE, List.set_cons_zero, List.set_cons_succ]
    rw [call_eq t_bent rfl, bq_eq]
    have odd : evT sgL (callF sgL hd.tab (d + 3)) [some (.loc n), some v, some (.int w), none, none] bC S1 = .ok true S1 → ∃ (v' : Val) (S' : Store), finO (evSs sgL (callF sgL hd.tab (d + 3)) [bq0, bq1, bq2, bq3, bq4, bq5] [some (.loc n), some v, none, none, none] S) = .ok v' S' ∧
        Dt (B + 1) (N + 2) ((N + 1 + 3) * K + 2010 + 5 * (N + 1)) v' ∧ Box S' n (m + 3 * (N + 1 + 1)) ∧ Same n S S' := fun sc => by
      obtain ⟨v', S', g1, g2, g3, g4⟩ := odd_ok b1 (by omega) hB hB2 hK hv d
      refine ⟨v', S', ?_, g2.up (by omega), g3.mono (by omega), s1.trans g4⟩
      rw [evSs_one e0]
      simp -implicitDefEqProofs only [evSs, bq1_eq, evS_q13, sc, Res.on_ok, if_true, evS_q11, evE_q16, evEs_q0, evEs_q1, evE_q0, List.getElem?_cons_zero, List.getElem?_cons_succ, Res.bind_ok, g1, Out.then_rt]
      rfl
    show ∃ (v' : Val) (S' : Store), finO (evSs sgL (callF sgL hd.tab (d + 3)) [bq0, bq1, bq2, bq3, bq4, bq5] [some (.loc n), some v, none, none, none] S) = .ok v' S' ∧ _
    by_cases hmk : ∃ c l, v = mk c l
    · obtain ⟨c, l, rfl⟩ := hmk
      by_cases hl : l = []
      · subst hl
        exact odd (bC_nil c _ _ _ _ _ _)
      · have ne := bC_ne c hl (callF sgL hd.tab (d + 3)) (some (.loc n)) none none w S1
        by_cases w0 : w = 0
        · rw [decide_eq_true w0] at ne
          exact odd ne
        · rw [decide_eq_false w0] at ne
          obtain ⟨h3, hd'⟩ := dt_ge hv
          have hlen := dt_len hd'
          have lpos : 0 < l.length := List.length_pos_iff.mpr hl
          have e1 : evS sgL (callF sgL hd.tab (d + 3)) bq1 [some (.loc n), some (mk c l), some (.int w), none, none] S1 = .nx [some (.loc n), some (mk c l), some (.int w), none, none] S1 := by
            simp -implicitDefEqProofs only [bq1_eq, evS_q13, ne, Res.on_ok, Bool.false_eq_true, if_false, evSs]
          obtain ⟨j, S2, c2, hj, b2, s2⟩ := draw (sg := sgL) (d := d + 2) t_take b1 (by omega) l.length lpos (by omega)
          have ml := mk_list S1 c l
          have mn := mk_len S1 c l
          have e2 : evS sgL (callF sgL hd.tab (d + 3)) bq2 [some (.loc n), some (mk c l), some (.int w), none, none] S1 = .nx [some (.loc n), some (mk c l), some (.int w), some (.lst l), some (.int j)] S2 := by
            simp -implicitDefEqProofs only [bq2, evS_q4, evE_q16, evE_q18, evEs_q0, evEs_q1, evE_q0, evE_q1, List.getElem?_cons_zero, List.getElem?_cons_succ, Res.bind_ok, Res.of_some, ml, mn, c2, Res.on_ok, parE, setE, List.set_cons_zero, List.set_cons_succ]
          have sB := s1.trans s2
          have q1 : cmpV .eq (.int w) (.int 1) = some (decide (w = 1)) := cwn w 1
          rw [evSs_one e0, evSs_one e1, evSs_one e2]
          by_cases w1 : w = 1
          · rw [decide_eq_true w1] at q1
            refine ⟨.lst l, S2, ?_, (dt_lst hd').mono (by omega) (by omega) (by omega), b2.mono (by omega), sB⟩
            have e3 : evS sgL (callF sgL hd.tab (d + 3)) bq3 [some (.loc n), some (mk c l), some (.int w), some (.lst l), some (.int j)] S2 = .rt (.lst l) S2 := by
              have c3 : evT sgL (callF sgL hd.tab (d + 3)) [some (.loc n), some (mk c l), some (.int w), some (.lst l), some (.int j)] (.cmp .eq (.lv 2) (.cst (.int 1))) S2 = .ok true S2 := by
                simp -implicitDefEqProofs only [evT_q, evE_q5, evE_q0, evE_q1, List.getElem?_cons_zero, List.getElem?_cons_succ, Res.bind_ok, q1, Option.map_some, Res.of_some, tru_bl]
              show evS sgL _ (.ite (.cmp .eq (.lv 2) (.cst (.int 1))) [.share 3, .ret (.lv 3)] []) _ S2 = _
              rw [ev_iteL c3, if_pos rfl]
              rfl
            simp -implicitDefEqProofs only [evSs, e3, Out.then_rt]
            rfl
          · rw [decide_eq_false w1] at q1
            have e3 : evS sgL (callF sgL hd.tab (d + 3)) bq3 [some (.loc n), some (mk c l), some (.int w), some (.lst l), some (.int j)] S2 = .nx [some (.loc n), some (mk c l), some (.int w), some (.lst l), some (.int j)] S2 := by
              simp -implicitDefEqProofs only [bq3, evS_q13, evT_q, evE_q5, evE_q0, evE_q1, List.getElem?_cons_zero, List.getElem?_cons_succ, Res.bind_ok, q1, Option.map_some, Res.of_some, tru_bl, Res.on_ok, Bool.false_eq_true, if_false, evSs]
            rw [evSs_one e3]
            have g4 : cmpV .gt (.int w) (.int 4) = some (decide (4 < w)) := cwg w 4
            by_cases w4 : 4 < w
            · rw [decide_eq_true w4] at g4
              have ej : atI l (j : Int) = some l[j] := by rw [atI_nat, List.getElem?_eq_getElem hj]
              have hx := hd'.get (List.getElem_mem hj)
              obtain ⟨y, S4, c4, hy, b4, s4⟩ := ih (K - 3) l[j] hx (by omega) (m + 1 + 1) (d + 3) S2 b2 (by omega) (by omega)
              have z := (hd'.up (Nat.le_succ B) (Nat.le_succ N) (Nat.le_refl _)).set j hy
              refine ⟨mk c (l.set j y), S4, ?_, (dt_mk.mpr z).mono (Nat.le_refl _) (Nat.le_refl _) (by omega), b4.mono (by omega), sB.trans s4⟩
              have e4 : evS sgL (callF sgL hd.tab (d + 3)) bq4 [some (.loc n), some (mk c l), some (.int w), some (.lst l), some (.int j)] S2 = .nx [some (.loc n), some (mk c l), some (.int w), some (.lst (l.set j y)), some (.int j)] S4 := by
                simp -implicitDefEqProofs only [bq4_eq, evS_q13, evT_q, evE_q5, evE_q0, evE_q1, List.getElem?_cons_zero, List.getElem?_cons_succ, Res.bind_ok, g4, Option.map_some, Res.of_some, tru_bl, Res.on_ok, if_true, bSet, evSs, evS_q6, lstE, evE_q14, evE_q16, evEs_q0, evEs_q1, ix_l, ej, c4, ixN_nat hj, Out.then_nx, setE, List.set_cons_zero, List.set_cons_succ]
              rw [evSs_one e4, bq5_ok]
              rfl
            · rw [decide_eq_false w4] at g4
              obtain ⟨l', p, dl⟩ := pick_ok hd' (by omega) j w (by omega) (by omega) (callF sgL hd.tab (d + 3)) (some (.loc n)) (some (mk c l)) S2
              refine ⟨mk c l', S2, ?_, (dt_mk.mpr dl).mono (by omega) (by omega) (by omega), b2.mono (by omega), sB⟩
              have c3 : evT sgL (callF sgL hd.tab (d + 3)) [some (.loc n), some (mk c l), some (.int w), some (.lst l), some (.int j)] (.cmp .gt (.lv 2) (.cst (.int 4))) S2 = .ok false S2 := by
                simp -implicitDefEqProofs only [evT_q, evE_q5, evE_q0, evE_q1, List.getElem?_cons_zero, List.getElem?_cons_succ, Res.bind_ok, g4, Option.map_some, Res.of_some, tru_bl]
              have e4 : evS sgL (callF sgL hd.tab (d + 3)) bq4 [some (.loc n), some (mk c l), some (.int w), some (.lst l), some (.int j)] S2 = .nx [some (.loc n), some (mk c l), some (.int w), some (.lst l'), some (.int j)] S2 := by
                rw [bq4_eq, ev_iteL c3, if_neg (by decide)]
                exact p
              rw [evSs_one e4, bq5_ok]
              rfl
    · have his : isasV sgL.eb v [.lst, .tup] = some false := by
        obtain ⟨k, e, _⟩ := hv
        cases v with
        | tup l => exact absurd ⟨false, l, rfl⟩ hmk
        | lst l => exact absurd ⟨true, l, rfl⟩ hmk
        | loc _ => cases e
        | exn _ _ => cases e
        | dct _ _ => cases e
        | _ => rfl
      exact odd (bC_sc his _ _ _ _ _ _)
end LawK53

end
section
set_option linter.all false
set_option maxRecDepth 100000
/-! K53v: the law. -/
namespace LawK53
open PySem Pi
def st0 : IS := .own 2 (.lst [])
def st1 : IS := .forr 0 [(.lv 1)] (.v 3) [.ins 2 (.call "_law_take" [(.lv 0), (.bin .add (.bi .len [(.lv 2)]) (.cst (.int 1)))]) (.lv 3)]
def st2 : IS := .share 2
def st3 : IS := .ret (.lv 2)
theorem st_eq : fn__law_strewn.body = [st0, st1, st2, st3] := rfl
def dp0 : IS := .asg (.v 1) (.bi .tuple [(.bi .sorted [(.call "_law_named" [(.lv 0), (.bin .add (.cst (.int 1)) (.call "_law_take" [(.lv 0), (.cst (.int 2))]))])])])
def dp1 : IS := .asg (.v 2) (.bi .sorted [(.sl (.call "_law_strewn" [(.lv 0), (.lrg [(.neg (.cst (.int 9))), (.cst (.int 10))])]) [] [(.bin .add (.cst (.int 1)) (.call "_law_take" [(.lv 0), (.cst (.int 3))]))])])
def dp2 : IS := .ret (.tup [(.lv 1), (.bin .add (.cst (.int 1)) (.call "_law_take" [(.lv 0), (.cst (.int 4))])), (.bi .tuple [(.lv 2)])])
theorem dp_eq : fn__law_drawn_pieces.body = [dp0, dp1, dp2] := rfl
def rg0 : IS := .forr 1 [(.cst (.int 6))] (.v 1) [.asg (.v 2) (.call "_law_drawn_pieces" [(.lv 0)]), .own 3 (.lst [(.lv 2), (.bi .list [(.lv 2)]), (.sl (.lv 2) [] [(.cst (.int 2))]), (.bin .add (.lv 2) (.tup [(.tup [])])), (.ix (.lv 2) (.cst (.int 0)))]), .forr 1 [(.cst (.int 12))] (.v 4) [.asg (.v 5) (.call "_law_bent" [(.lv 0), (.lv 2)]), .app 3 (.ite (.cmp .eq (.call "_law_take" [(.lv 0), (.cst (.int 3))]) (.cst (.int 0))) (.call "_law_bent" [(.lv 0), (.lv 5)]) (.lv 5))], .share 3, .forr 0 [(.lv 3)] (.v 5) [.par [(6, false), (7, false)] [(.bi .repr [(.lv 5)]), (.call "_law_due" [(.lv 5)])], .ite (.or [(.not (.call "_law_same" [(.lst [(.call "is_pieces" [(.lv 5)]), (.call "is_pieces" [(.lv 5)])]), (.lst [(.lv 7), (.lv 7)])])), (.cmp .ne (.bi .repr [(.lv 5)]) (.lv 6))]) [.ret (.cst (.bl false))] []]]
def rg1 : IS := .ret (.cst (.bl true))
theorem rg_eq : fn__law_right.body = [rg0, rg1] := rfl
def lw0 : IS := .asg (.v 1) (.call "_law_folded" [(.lv 0), (.cst (.int 3))])
def lw1 : IS := .asg (.v 2) (.lst [(.tup [(.tup [(.cst (.str "a"))]), (.cst (.int 3)), (.tup [(.cst (.int 0)), (.cst (.int 1)), (.cst (.int 2))])]), (.tup [(.tup [(.cst (.str "a"))]), (.cst (.int 4)), (.tup [(.cst (.int 0)), (.cst (.int 1)), (.cst (.int 2))])]), (.tup [(.tup [(.cst (.str "a")), (.cst (.str "b"))]), (.cst (.int 1)), (.tup [(.cst (.int 0)), (.cst (.int 1)), (.cst (.int 2))])]), (.tup [(.tup [(.cst (.str "a")), (.cst (.str "b"))]), (.cst (.int 2)), (.tup [(.cst (.int 0)), (.cst (.int 1)), (.cst (.int 2))])])])
def lw2 : IS := .asg (.v 2) (.bin .add (.lv 2) (.lst [(.tup [(.tup [(.cst (.str "a")), (.cst (.str "b"))]), (.cst (.int 2)), (.tup [(.neg (.cst (.int 9))), (.cst (.int 9))])]), (.tup [(.tup [(.cst (.str "a")), (.cst (.str "b"))]), (.cst (.int 3)), (.tup [(.cst (.int 0)), (.cst (.int 1))])]), (.tup [(.tup [(.cst (.str "a")), (.cst (.str "b"))]), (.cst (.int 4)), (.tup [(.cst (.int 5))])]), (.tup [(.tup [(.cst (.str "a"))]), (.cst (.int 4)), (.tup [(.cst (.int 0)), (.cst (.int 1))])])]))
def lw3 : IS := .asg (.v 2) (.bin .add (.lv 2) (.lst [(.tup [(.tup [(.cst (.str "a")), (.cst (.str "b")), (.cst (.str "c"))]), (.cst (.int 1)), (.tup [(.cst (.int 0))])]), (.tup [(.tup [(.cst (.str "a")), (.cst (.str "a"))]), (.cst (.int 1)), (.tup [(.cst (.int 0))])]), (.tup [(.tup [(.cst (.str "b")), (.cst (.str "a"))]), (.cst (.int 1)), (.tup [(.cst (.int 0))])]), (.tup [(.tup [(.cst (.str "a"))]), (.cst (.int 5)), (.tup [(.cst (.int 0))])])]))
def lw4 : IS := .asg (.v 3) (.lst [(.cst (.bl true)), (.cst (.bl false)), (.cst (.bl true)), (.cst (.bl false)), (.cst (.bl true)), (.cst (.bl false)), (.cst (.bl true)), (.cst (.bl true)), (.cst (.bl false)), (.cst (.bl false)), (.cst (.bl false)), (.cst (.bl false))])
def lw5 : IS := .ite (.not (.call "_law_same" [(.bin .add (.comp 0 [(.lv 2)] (.v 4) [] (.call "is_pieces" [(.lv 4)])) (.lst [(.gv "MOST_WORLDS" (.int 90))])), (.bin .add (.lv 3) (.lst [(.cst (.int 90))]))])) [.ret (.cst (.bl false))] []
def lw6 : IS := .ret (.bi .all [(.comp 1 [(.bi .max2 [(.cst (.int 1)), (.bi .len [(.lv 1)])])] (.v 5) [] (.call "_law_right" [(.call "_law_dip" [(.lv 1), (.lv 5)])]))])
theorem lw_eq : fn_law.body = [lw0, lw1, lw2, lw3, lw4, lw5, lw6] := rfl
def rb0 : IS := .asg (.v 2) (.call "_law_drawn_pieces" [(.lv 0)])
def rb1 : IS := .own 3 (.lst [(.lv 2), (.bi .list [(.lv 2)]), (.sl (.lv 2) [] [(.cst (.int 2))]), (.bin .add (.lv 2) (.tup [(.tup [])])), (.ix (.lv 2) (.cst (.int 0)))])
def bI : List IS := [.asg (.v 5) (.call "_law_bent" [(.lv 0), (.lv 2)]), .app 3 (.ite (.cmp .eq (.call "_law_take" [(.lv 0), (.cst (.int 3))]) (.cst (.int 0))) (.call "_law_bent" [(.lv 0), (.lv 5)]) (.lv 5))]
def rb2 : IS := .forr 1 [(.cst (.int 12))] (.v 4) bI
def rb3 : IS := .share 3
def tI : List IS := [.par [(6, false), (7, false)] [(.bi .repr [(.lv 5)]), (.call "_law_due" [(.lv 5)])], .ite (.or [(.not (.call "_law_same" [(.lst [(.call "is_pieces" [(.lv 5)]), (.call "is_pieces" [(.lv 5)])]), (.lst [(.lv 7), (.lv 7)])])), (.cmp .ne (.bi .repr [(.lv 5)]) (.lv 6))]) [.ret (.cst (.bl false))] []]
def rb4 : IS := .forr 0 [(.lv 3)] (.v 5) tI
def rB : List IS := [rb0, rb1, rb2, rb3, rb4]
theorem rg0_eq : rg0 = .forr 1 [(.cst (.int 6))] (.v 1) rB := rfl
def tI0 : IS := .par [(6, false), (7, false)] [(.bi .repr [(.lv 5)]), (.call "_law_due" [(.lv 5)])]
def tI1 : IS := .ite (.or [(.not (.call "_law_same" [(.lst [(.call "is_pieces" [(.lv 5)]), (.call "is_pieces" [(.lv 5)])]), (.lst [(.lv 7), (.lv 7)])])), (.cmp .ne (.bi .repr [(.lv 5)]) (.lv 6))]) [.ret (.cst (.bl false))] []
theorem tI_eq : tI = [tI0, tI1] := rfl
def bI0 : IS := .asg (.v 5) (.call "_law_bent" [(.lv 0), (.lv 2)])
def bI1 : IS := .app 3 (.ite (.cmp .eq (.call "_law_take" [(.lv 0), (.cst (.int 3))]) (.cst (.int 0))) (.call "_law_bent" [(.lv 0), (.lv 5)]) (.lv 5))
theorem bI_eq : bI = [bI0, bI1] := rfl
def stB : List IS := [.ins 2 (.call "_law_take" [(.lv 0), (.bin .add (.bi .len [(.lv 2)]) (.cst (.int 1)))]) (.lv 3)]
theorem st1_eq : st1 = .forr 0 [(.lv 1)] (.v 3) stB := rfl

theorem t_strewn : hd.tab "_law_strewn" = some fn__law_strewn := rfl
theorem t_drawn : hd.tab "_law_drawn_pieces" = some fn__law_drawn_pieces := rfl
theorem t_named : hd.tab "_law_named" = some Co.fn__law_named := rfl
theorem t_same : hd.tab "_law_same" = some Co.fn__law_same := rfl
theorem t_dip : hd.tab "_law_dip" = some Co.fn__law_dip := rfl
theorem t_folded : hd.tab "_law_folded" = some Co.fn__law_folded := rfl
theorem t_right : hd.tab "_law_right" = some fn__law_right := rfl
theorem t_law : hd.tab "law" = some fn_law := rfl
section
variable {n m : Nat} {S : Store}
theorem strewn_ok (b : Box S n m) {is : List Int} (hl : is.length ≤ 100) (hm : m + is.length < 800000) (hi : ∀ i ∈ is, i.natAbs ≤ 9) (d : Nat) :
    ∃ (js : List Int) (S' : Store), callF sgL hd.tab (d + 2) "_law_strewn" [.loc n, .lst (is.map .int)] S = .ok (.lst (js.map .int)) S' ∧ js.length = is.length ∧ (∀ i ∈ js, i.natAbs ≤ 9) ∧ Box S' n (m + is.length) ∧ Same n S S' := by
  have loop := forGo_inv (f := forF sgL (callF sgL hd.tab (d + 1)) (.v 3) stB)
    (P := fun i ρ S' => Box S' n (m + i) ∧ Same n S S' ∧ ∃ (js : List Int) (a : Option Val), js.length = i ∧ (∀ i ∈ js, i.natAbs ≤ 9) ∧ ρ = [some (.loc n), some (.lst (is.map .int)), some (.lst (js.map .int)), a]) (l := is.map .int) (k := 0)
    (ρ := [some (.loc n), some (.lst (is.map .int)), some (.lst []), none]) (S := S) (fun i v ρ S1 hiv hP => by
    obtain ⟨bx, sx, js, a, hj, hb, rfl⟩ := hP
    have hlt : i < is.length := by
      have := (List.getElem?_eq_some_iff.mp hiv).1
      rw [List.length_map] at this
      exact this
    obtain ⟨x, hx, rfl⟩ := List.mem_map.mp (List.mem_of_getElem? hiv)
    obtain ⟨r, S2, c2, hr, b2, s2⟩ := draw (sg := sgL) (d := d) t_take bx (by omega) (js.length + 1) (by omega) (by omega)
    have c2 : callF sgL hd.tab (d + 1) "_law_take" [.loc n, .int ((js.length : Int) + 1)] S1 = .ok (.int r) S2 := by
      have e : ((js.length + 1 : Nat) : Int) = (js.length : Int) + 1 := by omega
      rw [← e]
      exact c2
    have cond : 0 ≤ (r : Int) ∧ (r : Int) < 2 ^ 62 ∧ (js.map Val.int).length < lim := ⟨by omega, by omega, by rw [List.length_map]; show _ < 16777216; omega⟩
    refine ⟨[some (.loc n), some (.lst (is.map .int)), some (.lst ((js.take r ++ [x] ++ js.drop r).map .int)), some (.int x)], S2, .inl ?_, b2.mono (by omega), sx.trans s2, js.take r ++ [x] ++ js.drop r, some (.int x), ?_, ?_, rfl⟩
    · rw [forF_eq (ρ' := [some (.loc n), some (.lst (is.map .int)), some (.lst (js.map .int)), some (.int x)]) (by simp)]
      have ml : ((js.map Val.int).length : Int) = (js.length : Int) := by rw [List.length_map]
      simp -implicitDefEqProofs only [stB, evSs, evS_q21, lstE, evE_q3, evE_q16, evE_q18, evEs_q0, evEs_q1, evE_q0, evE_q1, List.getElem?_cons_zero, List.getElem?_cons_succ, Res.bind_ok, Res.of_some, bi_lenL, bv_addI, ml, c2, Res.on_ok, if_pos cond, Int.toNat_natCast, Out.then_nx, setE, List.set_cons_zero, List.set_cons_succ, List.map_append, List.map_take, List.map_drop, List.map_cons, List.map_nil]
    · rw [List.length_append, List.length_append, List.length_take, List.length_drop]
      show min r js.length + 1 + _ = _
      omega
    · intro y hy
      rcases List.mem_append.mp hy with hy | hy
      · rcases List.mem_append.mp hy with hy | hy
        · exact hb y (List.mem_of_mem_take hy)
        · rw [List.mem_singleton.mp hy]
          exact hi x hx
      · exact hb y (List.mem_of_mem_drop hy)) ⟨b, Same.rfl', [], none, rfl, (fun _ h => (by cases h)), rfl⟩
  obtain ⟨ρ', S', l1, bx, sx, js, a, hj, hb, rfl⟩ := loop
  rw [List.length_map, Nat.zero_add] at hj bx
  refine ⟨js, S', ?_, hj, hb, bx, sx⟩
  rw [call_eq t_strewn rfl, st_eq]
  show finO (evSs sgL (callF sgL hd.tab (d + 1)) [st0, st1, st2, st3] [some (.loc n), some (.lst (is.map .int)), none, none] S) = _
  have e0 : evS sgL (callF sgL hd.tab (d + 1)) st0 [some (.loc n), some (.lst (is.map .int)), none, none] S = .nx [some (.loc n), some (.lst (is.map .int)), some (.lst []), none] S := rfl
  have e1 : evS sgL (callF sgL hd.tab (d + 1)) st1 [some (.loc n), some (.lst (is.map .int)), some (.lst []), none] S = .nx [some (.loc n), some (.lst (is.map .int)), some (.lst (js.map .int)), a] S' := by
    have it : itV S 0 [.lst (is.map Val.int)] = some (is.map Val.int) := rfl
    simp only [st1_eq, evS_for, evEs_q0, evEs_q1, evE_q0, List.getElem?_cons_zero, List.getElem?_cons_succ, Res.bind_ok, it, Res.of_some, Res.on_ok, l1]
  rw [evSs_one e0, evSs_one e1]
  rfl
theorem ints_id (l : List Int) : intsV (l.map .int) = some l := by
  have := ints_map (fun i : Int => i) l
  rw [List.map_id'] at this
  exact this
abbrev B0 : Nat := 100000000000000000000
theorem dt_nice' {B n : Nat} {x : Str} (h : Nice x) : Dt B n 92 (.str x) := (dt_strL (Nat.le_trans h.b (by omega)) (by
  unfold ascB
  rw [List.all_eq_true]
  exact fun c hc => decide_eq_true (by have := h.l c hc; omega))).up (by have := h.b; omega)
theorem drawn_ok (b : Box S n m) (hm : m < 700000) (d : Nat) :
    ∃ (c l w : Val) (S' : Store), callF sgL hd.tab (d + 4) "_law_drawn_pieces" [.loc n] S = .ok (.tup [c, l, w]) S' ∧ Dt B0 1 191 c ∧ Dt B0 1 102 l ∧ Dt B0 1 315 w ∧ Box S' n (m + 60) ∧ Same n S S' := by
  obtain ⟨r, S1, c1, hr, b1, s1⟩ := draw (sg := sgL) (d := d + 2) t_take b (by omega) 2 (by omega) (by omega)
  have c1 : callF sgL hd.tab (d + 3) "_law_take" [.loc n, .int 2] S = .ok (.int r) S1 := c1
  obtain ⟨xs, S2, c2, hl, _, hx, b2, s2⟩ := named_ok (sg := sgL) (d := d + 1) t_take t_named b1 (k := 1 + r) (by omega) (by omega)
  have c2 : callF sgL hd.tab (d + 3) "_law_named" [.loc n, .int (1 + (r : Int))] S1 = .ok (.lst (xs.map .str)) S2 := by
    have e : ((1 + r : Nat) : Int) = 1 + (r : Int) := by omega
    rw [← e]
    exact c2
  have sx : ∀ S, biV S .sorted [.lst (xs.map .str)] = some (.lst ((sortS xs).map .str)) := fun S => by
    have h0 : intsV (xs.map .str) = none := by
      cases xs with
      | nil => rw [List.length_nil] at hl; omega
      | cons a r => rfl
    show (match intsV (xs.map .str) with
      | some ns => some (Val.lst ((sortI ns).map .int))
      | none => (strsV (xs.map .str)).bind fun xs => if xs.length < 64 then some (Val.lst ((sortS xs).map .str)) else none) = _
    rw [h0]
    show (strsV (xs.map .str)).bind _ = _
    rw [strs_map, Option.bind_some, if_pos (by omega)]
  have rl : rangeL (-9) 19 = ([-9, -8, -7, -6, -5, -4, -3, -2, -1, 0, 1, 2, 3, 4, 5, 6, 7, 8, 9] : List Int).map .int := by kernel_rfl
  obtain ⟨js, S3, c3, hjl, hj, b3, s3⟩ := strewn_ok b2 (is := [-9, -8, -7, -6, -5, -4, -3, -2, -1, 0, 1, 2, 3, 4, 5, 6, 7, 8, 9]) (by decide) (by show _ + 19 < _; omega) (by decide) (d + 1)
  rw [← rl] at c3
  have c3 : callF sgL hd.tab (d + 3) "_law_strewn" [.loc n, .lst (rangeL (-9) 19)] S2 = .ok (.lst (js.map .int)) S3 := c3
  have b3 : Box S3 n (m + 1 + 9 * (1 + r) + 19) := b3
  obtain ⟨q, S4, c4, hq, b4, s4⟩ := draw (sg := sgL) (d := d + 2) t_take b3 (by omega) 3 (by omega) (by omega)
  have c4 : callF sgL hd.tab (d + 3) "_law_take" [.loc n, .int 3] S3 = .ok (.int q) S4 := c4
  obtain ⟨p, S5, c5, hp, b5, s5⟩ := draw (sg := sgL) (d := d + 2) t_take b4 (by omega) 4 (by omega) (by omega)
  have c5 : callF sgL hd.tab (d + 3) "_law_take" [.loc n, .int 4] S4 = .ok (.int p) S5 := c5
  have lr : lrgV [.int (-9), .int 10] = some (.lst (rangeL (-9) 19)) := rfl
  have ct : cutL (js.map Val.int) none (some (1 + (q : Int))) = (js.take (1 + q)).map Val.int := by
    have e : 1 + (q : Int) = ((1 + q : Nat) : Int) := by omega
    rw [e, cut_to, List.map_take]
  have sj : ∀ S, biV S .sorted [.lst ((js.take (1 + q)).map .int)] = some (.lst ((sortI (js.take (1 + q))).map .int)) := fun S => by
    show (match intsV ((js.take (1 + q)).map .int) with
      | some ns => some (Val.lst ((sortI ns).map .int))
      | none => (strsV ((js.take (1 + q)).map .int)).bind fun xs => if xs.length < 64 then some (Val.lst ((sortS xs).map .str)) else none) = _
    rw [ints_id]
  have p1 := sortS_perm xs
  have p2 := sortI_perm (js.take (1 + q))
  have l1 : (sortS xs).length = 1 + r := by rw [p1.length_eq, hl]
  have l2 : (sortI (js.take (1 + q))).length ≤ 3 := by rw [p2.length_eq, List.length_take]; omega
  have d1 : Dts B0 0 188 ((sortS xs).map .str) := by
    have a := dts_map (B := B0) (n := 0) (K := 92) (f := Val.str) (l := sortS xs) fun x hx' => dt_nice' (hx x (p1.mem_iff.mp hx'))
    exact a.up (Nat.le_refl _) (Nat.le_refl _) (by rw [l1]; omega)
  have d2 : Dts B0 0 312 ((sortI (js.take (1 + q))).map .int) := by
    have a := dts_map (B := B0) (n := 0) (K := 102) (f := Val.int) (l := sortI (js.take (1 + q))) fun x hx' => dt_int (by
      have := hj x (List.mem_of_mem_take (p2.mem_iff.mp hx'))
      show _ ≤ 100000000000000000000
      omega)
    exact a.up (Nat.le_refl _) (Nat.le_refl _) (by omega)
  refine ⟨.tup ((sortS xs).map .str), .int (1 + (p : Int)), .tup ((sortI (js.take (1 + q))).map .int), S5, ?_, dt_tup d1, dt_int (by show _ ≤ 100000000000000000000; omega), dt_tup d2, b5.mono (by omega), (((s1.trans s2).trans s3).trans s4).trans s5⟩
  rw [call_eq t_drawn rfl, dp_eq]
  show finO (evSs sgL (callF sgL hd.tab (d + 3)) [dp0, dp1, dp2] [some (.loc n), none, none] S) = _
  have e0 : evS sgL (callF sgL hd.tab (d + 3)) dp0 [some (.loc n), none, none] S = .nx [some (.loc n), some (.tup ((sortS xs).map .str)), none] S2 := by
    simp -implicitDefEqProofs only [dp0, evS_q1, evE_q3, evE_q16, evE_q18, evEs_q0, evEs_q1, evE_q0, evE_q1, List.getElem?_cons_zero, Res.bind_ok, c1, bv_addI, Res.of_some, c2, sx, bi_tupL, Res.on_ok, bindP, setE, List.set_cons_zero, List.set_cons_succ]
  have e1 : evS sgL (callF sgL hd.tab (d + 3)) dp1 [some (.loc n), some (.tup ((sortS xs).map .str)), none] S2 = .nx [some (.loc n), some (.tup ((sortS xs).map .str)), some (.lst ((sortI (js.take (1 + q))).map .int))] S4 := by
    simp -implicitDefEqProofs only [dp1, evS_q1, evE_q3, evE_q4, evE_q15, evE_q33, evO_q0, evO_q1, evE_q16, evE_q18, evEs_q0, evEs_q1, evE_q0, evE_q1, List.getElem?_cons_zero, Res.bind_ok, lr, c3, c4, bv_addI, Res.of_some, sl_l, ct, sj, Res.on_ok, bindP, setE, List.set_cons_zero, List.set_cons_succ]
  rw [evSs_one e0, evSs_one e1]
  simp -implicitDefEqProofs only [dp2, evSs, evS_q11, evE_q3, evE_q11, evE_q16, evE_q18, evEs_q0, evEs_q1, evE_q0, evE_q1, List.getElem?_cons_zero, List.getElem?_cons_succ, Res.bind_ok, c5, bv_addI, Res.of_some, bi_tupL, Res.on_ok, Out.then_rt]
  rfl
abbrev DtF (v : Val) : Prop := Dt (B0 + 2) 4 36000 v
theorem turnB {ts : List Val} {g : Val} (b : Box S n m) (hm : m < 700000) (dg : Dt B0 2 700 g) (ht : ∀ t ∈ ts, DtF t) (hl : ts.length ≤ 100) (r1 r4 r5 r6 r7 : Option Val) :
    ∃ (t t' : Val) (S' : Store), evSs sgL (callF sgL hd.tab 98) bI [some (.loc n), r1, some g, some (.lst ts), r4, r5, r6, r7] S = .nx [some (.loc n), r1, some g, some (.lst (ts ++ [t])), r4, some t', r6, r7] S' ∧ DtF t ∧ Box S' n (m + 22) ∧ Same n S S' := by
  obtain ⟨v, S1, c1, d1, b1, s1⟩ := bent_ok (n := n) (B := B0) (by decide) (by decide +kernel) 2 700 g dg (by omega) m 98 S b (by omega) (by omega)
  have d1 : Dt (B0 + 1) 3 5520 v := d1
  obtain ⟨w, S2, c2, hw, b2, s2⟩ := draw (sg := sgL) (d := 97) t_take b1 (by omega) 3 (by omega) (by omega)
  have c2 : callF sgL hd.tab 98 "_law_take" [.loc n, .int 3] S1 = .ok (.int w) S2 := c2
  have cz : cmpV .eq (.int w) (.int 0) = some (decide (w = 0)) := cwn w 0
  have lt : ts.length < lim := by show _ < 16777216; omega
  have e0 : evS sgL (callF sgL hd.tab 98) bI0 [some (.loc n), r1, some g, some (.lst ts), r4, r5, r6, r7] S = .nx [some (.loc n), r1, some g, some (.lst ts), r4, some v, r6, r7] S1 := by
    simp -implicitDefEqProofs only [bI0, evS_q1, evE_q16, evEs_q0, evEs_q1, evE_q0, List.getElem?_cons_zero, List.getElem?_cons_succ, Res.bind_ok, c1, Res.on_ok, bindP, setE, List.set_cons_zero, List.set_cons_succ]
  by_cases w0 : w = 0
  · rw [decide_eq_true w0] at cz
    obtain ⟨u, S3, c3, d3, b3, s3⟩ := bent_ok (n := n) (B := B0 + 1) (by decide) (by decide +kernel) 3 5520 v d1 (by omega) _ 98 S2 b2 (by omega) (by omega)
    refine ⟨u, v, S3, ?_, d3.mono (Nat.le_refl _) (Nat.le_refl _) (by omega), b3.mono (by omega), (s1.trans s2).trans s3⟩
    rw [bI_eq, evSs_one e0]
    simp -implicitDefEqProofs only [bI1, evSs, evS_q8, lstE, evE_q5, evE_q10, evE_q16, evEs_q0, evEs_q1, evE_q0, evE_q1, List.getElem?_cons_zero, List.getElem?_cons_succ, Res.bind_ok, c2, cz, Option.map_some, Res.of_some, tru_bl, c3, Res.on_ok, if_pos lt, Out.then_nx, setE, List.set_cons_zero, List.set_cons_succ]
  · rw [decide_eq_false w0] at cz
    refine ⟨v, v, S2, ?_, d1.mono (by omega) (by omega) (by omega), b2.mono (by omega), s1.trans s2⟩
    rw [bI_eq, evSs_one e0]
    simp -implicitDefEqProofs only [bI1, evSs, evS_q8, lstE, evE_q5, evE_q10, evE_q16, evEs_q0, evEs_q1, evE_q0, evE_q1, List.getElem?_cons_zero, List.getElem?_cons_succ, Res.bind_ok, c2, cz, Option.map_some, Res.of_some, tru_bl, Res.on_ok, if_pos lt, Out.then_nx, setE, List.set_cons_zero, List.set_cons_succ]
theorem seen {t : Val} (h : DtF t) (r0 r1 r2 r3 r4 r6 r7 : Option Val) :
    ∃ a b, evSs sgL (callF sgL hd.tab 98) tI [r0, r1, r2, r3, r4, some t, r6, r7] S = .nx [r0, r1, r2, r3, r4, some t, a, b] S := by
  obtain ⟨k, e, hk⟩ := h
  have g := dt_good (B0 + 2) 4 e (by omega)
  have z := dt_sz (B := B0 + 2) (by decide +kernel) 4 e
  have rp : biV S .repr [t] = some (.str (toD t).shown) := repr_sz z (by omega) (good_dat g (by omega))
  have c1 := due_ok ⟨4, g⟩ 95 S
  have c2 := pieces_ok ⟨4, g⟩ 95 S
  have c1 : callF sgL hd.tab 98 "_law_due" [t] S = _ := c1
  have c2 : callF sgL hd.tab 98 "is_pieces" [t] S = _ := c2
  have c3 := same_ok (sg := sgL) t_same 1 (v := .lst [.bl (isP t), .bl (isP t)]) (d := 98) (S := S) (by rfl) (by omega)
  have e2 : ∀ x : Str, cmpV .ne (.str x) (.str x) = some false := fun x => by
    show some (!(x == x)) = _
    rw [beq_self_eq_true]
    rfl
  refine ⟨some (.str (toD t).shown), some (.bl (isP t)), ?_⟩
  have f0 : evS sgL (callF sgL hd.tab 98) tI0 [r0, r1, r2, r3, r4, some t, r6, r7] S = .nx [r0, r1, r2, r3, r4, some t, some (.str (toD t).shown), some (.bl (isP t))] S := by
    simp -implicitDefEqProofs only [tI0, evS_q4, evE_q16, evE_q18, evEs_q0, evEs_q1, evE_q0, List.getElem?_cons_zero, List.getElem?_cons_succ, Res.bind_ok, Res.of_some, rp, c1, Res.on_ok, parE, setE, List.set_cons_zero, List.set_cons_succ]
  rw [tI_eq, evSs_one f0]
  simp -implicitDefEqProofs only [tI1, evSs, evS_q13, evT_q, evE_q9, evOr_q1, evE_q7, evE_q5, evE_q12, evE_q16, evE_q18, evEs_q0, evEs_q1, evE_q0, List.getElem?_cons_zero, List.getElem?_cons_succ, Res.bind_ok, Res.of_some, c2, c3, rp, e2, Option.map_some, tru_bl, Bool.not_true, Res.on_ok, Bool.false_eq_true, if_false, Out.then_nx]
theorem thing0 (c l w : Val) (r1 r4 r5 r6 r7 r3 : Option Val) : evS sgL (callF sgL hd.tab 98) rb1 [some (.loc n), r1, some (.tup [c, l, w]), r3, r4, r5, r6, r7] S =
    .nx [some (.loc n), r1, some (.tup [c, l, w]), some (.lst [.tup [c, l, w], .lst [c, l, w], .tup [c, l], .tup [c, l, w, .tup []], c]), r4, r5, r6, r7] S := by kernel_rfl
theorem turn_ok (b : Box S n m) (hm : m < 600000) (r1 r2 r3 r4 r5 r6 r7 : Option Val) :
    ∃ (q2 q3 q4 q5 q6 q7 : Option Val) (S' : Store), evSs sgL (callF sgL hd.tab 98) rB [some (.loc n), r1, r2, r3, r4, r5, r6, r7] S = .nx [some (.loc n), r1, q2, q3, q4, q5, q6, q7] S' ∧ Box S' n (m + 400) := by
  obtain ⟨c, l, w, S1, c1, dc, dl, dw, b1, _⟩ := drawn_ok b (by omega) 94
  have c1 : callF sgL hd.tab 98 "_law_drawn_pieces" [.loc n] S = _ := c1
  have dd : Dts B0 1 614 [c, l, w] := (dts_cons dc (dts_cons dl (dts_cons dw dts_nil))).up (Nat.le_refl _) (Nat.le_refl _) (by omega)
  have dg : Dt B0 2 700 (.tup [c, l, w]) := (dt_tup dd).up (by omega)
  have dcl : Dts B0 1 297 [c, l] := (dts_cons dc (dts_cons dl dts_nil)).up (Nat.le_refl _) (Nat.le_refl _) (by omega)
  have d4 : Dts B0 1 640 [c, l, w, .tup []] := (dts_cons dc (dts_cons dl (dts_cons dw (dts_cons (dt_tup (dts_nil (B := B0) (n := 0))) dts_nil)))).up (Nat.le_refl _) (Nat.le_refl _) (by omega)
  have ht0 : ∀ t ∈ [.tup [c, l, w], .lst [c, l, w], .tup [c, l], .tup [c, l, w, .tup []], c], DtF t := by
    intro t h
    simp only [List.mem_cons, List.not_mem_nil, or_false] at h
    rcases h with rfl | rfl | rfl | rfl | rfl
    · exact dg.mono (by omega) (by omega) (by omega)
    · exact (dt_lst dd).mono (by omega) (by omega) (by omega)
    · exact (dt_tup dcl).mono (by omega) (by omega) (by omega)
    · exact (dt_tup d4).mono (by omega) (by omega) (by omega)
    · exact dc.mono (by omega) (by omega) (by omega)
  have e0 : evS sgL (callF sgL hd.tab 98) rb0 [some (.loc n), r1, r2, r3, r4, r5, r6, r7] S = .nx [some (.loc n), r1, some (.tup [c, l, w]), r3, r4, r5, r6, r7] S1 := by
    simp -implicitDefEqProofs only [rb0, evS_q1, evE_q16, evEs_q0, evEs_q1, evE_q0, List.getElem?_cons_zero, Res.bind_ok, c1, Res.on_ok, bindP, setE, List.set_cons_zero, List.set_cons_succ]
  have e1 := thing0 (n := n) (S := S1) c l w r1 r4 r5 r6 r7 r3
  have loop := forGo_inv (f := forF sgL (callF sgL hd.tab 98) (.v 4) bI) (P := fun i ρ S' => Box S' n (m + 60 + 22 * i) ∧ ∃ ts a b, ts.length = 5 + i ∧ (∀ t ∈ ts, DtF t) ∧ ρ = [some (.loc n), r1, some (.tup [c, l, w]), some (.lst ts), a, b, r6, r7]) (l := rangeL 0 12) (k := 0)
      (ρ := [some (.loc n), r1, some (.tup [c, l, w]), some (.lst [.tup [c, l, w], .lst [c, l, w], .tup [c, l], .tup [c, l, w, .tup []], c]), r4, r5, r6, r7]) (S := S1) (fun i v ρ S hi hP => by
    obtain ⟨hik, rfl⟩ := range_get hi
    obtain ⟨bx, ts, a, b, hl, ht, rfl⟩ := hP
    obtain ⟨t, t', S', e, dt, b', _⟩ := turnB bx (by omega) dg ht (by omega) r1 (some (.int (0 + (i : Int)))) b r6 r7
    refine ⟨[some (.loc n), r1, some (.tup [c, l, w]), some (.lst (ts ++ [t])), some (.int (0 + (i : Int))), some t', r6, r7], S', .inl ?_, b'.mono (by omega), ts ++ [t], some (.int (0 + (i : Int))), some t', by rw [List.length_append]; show ts.length + 1 = _; omega, fun x hx => ?_, rfl⟩
    · rw [forF_eq (ρ' := [some (.loc n), r1, some (.tup [c, l, w]), some (.lst ts), some (.int (0 + (i : Int))), b, r6, r7]) (by simp)]
      exact e
    · rcases List.mem_append.mp hx with hx | hx
      · exact ht x hx
      · rw [List.mem_singleton.mp hx]
        exact dt) ⟨b1, _, r4, r5, rfl, ht0, rfl⟩
  obtain ⟨ρ', S2, l2, b2, ts, a, b', hl, ht, rfl⟩ := loop
  rw [range_len] at b2
  have hit : itV S1 1 [.int 12] = some (rangeL 0 12) := it1 S1 12 (by omega)
  have e2 : evS sgL (callF sgL hd.tab 98) rb2 [some (.loc n), r1, some (.tup [c, l, w]), some (.lst [.tup [c, l, w], .lst [c, l, w], .tup [c, l], .tup [c, l, w, .tup []], c]), r4, r5, r6, r7] S1 = .nx [some (.loc n), r1, some (.tup [c, l, w]), some (.lst ts), a, b', r6, r7] S2 := by
    simp only [rb2, evS_for, evEs_q0, evEs_q1, evE_q1, Res.bind_ok, hit, Res.of_some, Res.on_ok, l2]
  have e3 : evS sgL (callF sgL hd.tab 98) rb3 [some (.loc n), r1, some (.tup [c, l, w]), some (.lst ts), a, b', r6, r7] S2 = .nx [some (.loc n), r1, some (.tup [c, l, w]), some (.lst ts), a, b', r6, r7] S2 := rfl
  have loop2 := forGo_inv (f := forF sgL (callF sgL hd.tab 98) (.v 5) tI) (P := fun i ρ S' => S' = S2 ∧ ∃ x y z, ρ = [some (.loc n), r1, some (.tup [c, l, w]), some (.lst ts), a, x, y, z]) (l := ts) (k := 0)
      (ρ := [some (.loc n), r1, some (.tup [c, l, w]), some (.lst ts), a, b', r6, r7]) (S := S2) (fun i v ρ S hi hP => by
    obtain ⟨rfl, x, y, z, rfl⟩ := hP
    obtain ⟨p, q, e⟩ := seen (S := S) (ht v (List.mem_of_getElem? hi)) (some (.loc n)) r1 (some (.tup [c, l, w])) (some (.lst ts)) a y z
    refine ⟨_, S, .inl ?_, rfl, some v, p, q, rfl⟩
    rw [forF_eq (ρ' := [some (.loc n), r1, some (.tup [c, l, w]), some (.lst ts), a, some v, y, z]) (by simp)]
    exact e) ⟨rfl, b', r6, r7, rfl⟩
  obtain ⟨ρ2, S2', l3, rfl, x, y, z, rfl⟩ := loop2
  have it : itV S2' 0 [.lst ts] = some ts := rfl
  have e4 : evS sgL (callF sgL hd.tab 98) rb4 [some (.loc n), r1, some (.tup [c, l, w]), some (.lst ts), a, b', r6, r7] S2' = .nx [some (.loc n), r1, some (.tup [c, l, w]), some (.lst ts), a, x, y, z] S2' := by
    simp only [rb4, evS_for, evEs_q0, evEs_q1, evE_q0, List.getElem?_cons_zero, List.getElem?_cons_succ, Res.bind_ok, it, Res.of_some, Res.on_ok, l3]
  refine ⟨some (.tup [c, l, w]), some (.lst ts), a, x, y, z, S2', ?_, b2.mono (by omega)⟩
  show evSs sgL (callF sgL hd.tab 98) [rb0, rb1, rb2, rb3, rb4] _ S = _
  rw [evSs_one e0, evSs_one e1, evSs_one e2, evSs_one e3, evSs_one e4]
  rfl
theorem right_ok (n : Nat) (S : Store) (b : Box S n 0) : ∃ S', callF sgL hd.tab 99 "_law_right" [.loc n] S = .ok (.bl true) S' := by
  have loop := forGo_inv (f := forF sgL (callF sgL hd.tab 98) (.v 1) rB) (P := fun i ρ S' => Box S' n (400 * i) ∧ ∃ r1 r2 r3 r4 r5 r6 r7, ρ = [some (.loc n), r1, r2, r3, r4, r5, r6, r7]) (l := rangeL 0 6) (k := 0)
      (ρ := [some (.loc n), none, none, none, none, none, none, none]) (S := S) (fun i v ρ S hi hP => by
    obtain ⟨hik, rfl⟩ := range_get hi
    obtain ⟨bx, r1, r2, r3, r4, r5, r6, r7, rfl⟩ := hP
    obtain ⟨q2, q3, q4, q5, q6, q7, S', e, b'⟩ := turn_ok bx (by omega) (some (.int (0 + (i : Int)))) r2 r3 r4 r5 r6 r7
    refine ⟨_, S', .inl ?_, b'.mono (by omega), some (.int (0 + (i : Int))), q2, q3, q4, q5, q6, q7, rfl⟩
    rw [forF_eq (ρ' := [some (.loc n), some (.int (0 + (i : Int))), r2, r3, r4, r5, r6, r7]) (by simp)]
    exact e) ⟨b, none, none, none, none, none, none, none, rfl⟩
  obtain ⟨ρ', S', l1, _, r1, r2, r3, r4, r5, r6, r7, rfl⟩ := loop
  have hit : itV S 1 [.int 6] = some (rangeL 0 6) := it1 S 6 (by omega)
  have e0 : evS sgL (callF sgL hd.tab 98) rg0 [some (.loc n), none, none, none, none, none, none, none] S = .nx [some (.loc n), r1, r2, r3, r4, r5, r6, r7] S' := by
    simp only [rg0_eq, evS_for, evEs_q0, evEs_q1, evE_q1, Res.bind_ok, hit, Res.of_some, Res.on_ok, l1]
  refine ⟨S', ?_⟩
  rw [call_eq t_right rfl, rg_eq]
  show finO (evSs sgL (callF sgL hd.tab 98) [rg0, rg1] [some (.loc n), none, none, none, none, none, none, none] S) = _
  rw [evSs_one e0]
  rfl
end
def fixV : List Val := [.tup [.tup [.str "a"], .int 3, .tup [.int 0, .int 1, .int 2]], .tup [.tup [.str "a"], .int 4, .tup [.int 0, .int 1, .int 2]], .tup [.tup [.str "a", .str "b"], .int 1, .tup [.int 0, .int 1, .int 2]], .tup [.tup [.str "a", .str "b"], .int 2, .tup [.int 0, .int 1, .int 2]], .tup [.tup [.str "a", .str "b"], .int 2, .tup [.int (-9), .int 9]], .tup [.tup [.str "a", .str "b"], .int 3, .tup [.int 0, .int 1]], .tup [.tup [.str "a", .str "b"], .int 4, .tup [.int 5]], .tup [.tup [.str "a"], .int 4, .tup [.int 0, .int 1]], .tup [.tup [.str "a", .str "b", .str "c"], .int 1, .tup [.int 0]], .tup [.tup [.str "a", .str "a"], .int 1, .tup [.int 0]], .tup [.tup [.str "b", .str "a"], .int 1, .tup [.int 0]], .tup [.tup [.str "a"], .int 5, .tup [.int 0]]]
def toldV : List Val := [.bl true, .bl false, .bl true, .bl false, .bl true, .bl false, .bl true, .bl true, .bl false, .bl false, .bl false, .bl false]
theorem fixed_ok (v : Val) (l : List Val) (S : Store) : evSs sgL (callF sgL hd.tab 99) [lw1, lw2, lw3, lw4, lw5] [some v, some (.lst l), none, none, none, none] S = .nx [some v, some (.lst l), some (.lst fixV), some (.lst toldV), none, none] S := by kernel_rfl
theorem all_ok (ns : List Int) (hn : ns.length ≤ 63) : ∃ S', callF sgL hd.tab 100 "law" [.loc 0] [.ro (ns.map .int)] = .ok (.bl true) S' := by
  rw [call_eq t_law rfl, lw_eq]
  obtain ⟨cs, hc, f1⟩ := folded_ok (sg := sgL) (d := 98) (sz := 3) (ns := ns) (S := [.ro (ns.map .int)]) t_folded rfl (by omega) (by omega)
  have f1 : callF sgL hd.tab 99 "_law_folded" [.loc 0, .int 3] [.ro (ns.map .int)] = .ok (.lst (cs.map .int)) [.ro (ns.map .int)] := f1
  show ∃ S', finO (evSs sgL (callF sgL hd.tab 99) [lw0, lw1, lw2, lw3, lw4, lw5, lw6] [some (.loc 0), none, none, none, none, none] [.ro (ns.map .int)]) = _
  have e0 : evS sgL (callF sgL hd.tab 99) lw0 [some (.loc 0), none, none, none, none, none] [.ro (ns.map .int)] = .nx [some (.loc 0), some (.lst (cs.map .int)), none, none, none, none] [.ro (ns.map .int)] := by
    simp -implicitDefEqProofs only [lw0, evS_q1, evE_q16, evEs_q0, evEs_q1, evE_q0, evE_q1, List.getElem?_cons_zero, Res.bind_ok, f1, Res.on_ok, bindP, setE, List.set_cons_zero, List.set_cons_succ]
  have e1 := fixed_ok (.loc 0) (cs.map .int) [.ro (ns.map .int)]
  obtain ⟨w, hw, hw2⟩ : ∃ w : Nat, biV [.ro (ns.map .int)] .max2 [.int 1, .int (cs.map Val.int).length] = some (.int w) ∧ w ≤ 60 := by
    simp
    by_cases z : (1 : Int) < cs.length
    · exact ⟨cs.length, by rw [if_pos z], by omega⟩
    · exact ⟨1, by rw [if_neg z]; rfl, by omega⟩
  have hit := it1 [.ro (ns.map .int)] w (by omega)
  have comp := compGo_one (f := compF sgL (callF sgL hd.tab 99) (.v 5) [] (.call "_law_right" [(.call "_law_dip" [(.lv 1), (.lv 5)])]) [some (.loc 0), some (.lst (cs.map .int)), some (.lst fixV), some (.lst toldV), none, none])
    (P := fun _ _ => True) (R := fun _ z => z = Val.bl true) (l := rangeL 0 w) (k := 0) (S := [.ro (ns.map .int)]) (fun i v S hi _ => by
      obtain ⟨hiw, rfl⟩ := range_get hi
      obtain ⟨S1, d1, b1⟩ := dip_ok (sg := sgL) (d := 98) (k := i) (cs := cs) (S := S) t_dip (by omega)
      obtain ⟨S2, r1⟩ := right_ok _ S1 b1
      refine ⟨_, S2, ?_, trivial, rfl⟩
      simp [compF, wipeE, Pat.vars, d1, r1]) trivial
  obtain ⟨zs, S', c1, _, c3, c4⟩ := comp
  rw [range_len] at c3
  have hle : zs.length ≤ lim := by show _ ≤ 16777216; omega
  refine ⟨S', ?_⟩
  have hall := all_true (S := S') fun i z h => c4 i z h
  rw [evSs_one e0]
  show finO (evSs sgL (callF sgL hd.tab 99) ([lw1, lw2, lw3, lw4, lw5] ++ [lw6]) _ _) = _
  rw [evSs_app e1]
  simp only [lw6, evSs, evS_q11, evE_q18, evE_cmp, evEs_q0, evEs_q1, evE_q0, evE_q1, List.getElem?_cons_zero, List.getElem?_cons_succ, Res.bind_ok, bi_lenL, hw, hit, Res.of_some, c1, if_pos hle, hall, Res.on_ok, Out.then_rt]
  rfl
end LawK53

end
theorem PySem.Challenge.cw_holdmargins_k53_what_pieces_are_holds : PySem.Challenge.rw_holdmargins_k53_what_pieces_are.Holds := by
  exact law_LawK53 LawK53.all_ok
