import PyProof.Rows.All
import Wide.All
import OpenK.AllK
import Wide.FinOn
import KE.KStateDown
import HandS.ForMost
import HandS.ForExc
import HandS.Defaults
import HandS.Lambda
import HandS.EndTab
import HandS.HeadWalk
import HandS.Head0
import HandS.Head1
import HandS.Head2
import HandS.HeadEnd
import HandS.HeadHook1
import HandS.HeadHook2
import HandS.HeadHook3
import HandS.HeadHook4
import HandS.ExcCtx
import HandS.HotCalls
import HandS.IsInst
import HandS.Wide
import HandS.Walk
import HandS.Zip
import HandS.Conv
import HandS.SortInts
import HandS.TupAny
import HandS.Deep
import HandS.Style
import KE.GoesEnum
import KE.GoesMore
import HandS.ExcIs
import HandS.ExcField
import HandS.TupMul
import HandS.SetFor
import HandS.More
import KE.KCallOwn
import HandS.ExcInit
import HandS.MakeKw
import HandS.Text
import HandS.DictEq
import HandS.WideBits
import KE.DataCmp
import HandS.SortKw
import HandS.TupSets
import HandS.FStr
import HandS.ReplaceLit
import HandS.ReplaceDef
import HandS.RaiseMore
import HandS.ExcValue
import PySem.Challenge.RW_rollgates_k80_whole_saved_and_woken
set_option Elab.async false
set_option linter.all false
set_option maxRecDepth 100000
set_option maxHeartbeats 4000000
/-! ### RG core: what every law's proof leans on (own words over the hand layer) -/
namespace RG
open PySem PySem.Spec PyProof.Rows L2

/-! a def of the top, kept by its promise -/
abbrev CXN (P : Program) (w : World) : CXT := L2N.CX P w
/-- every parameter is given, whatever the heap -/
def BindsE (fd : FuncData) (ps : List Str) : Prop := ∀ (s : Shared) (us : List Value), us.length = ps.length → BindsTo s fd ⟨us, []⟩ (ps.zip us)
theorem BindsE.binds {K : PySem.W.Frag} {fd : FuncData} {ps : List Str} (b : BindsE fd ps) : Binds K fd ps [] := fun s us _ hl => by
  rw [List.append_nil] at hl ⊢
  exact b s us hl
def fdAt (K : PySem.W.Frag) (a : Addr) : Option FuncData := match K.lookup a with
  | some ⟨_, _, .func fd, _⟩ => some fd
  | _ => none
structure Ok (P : Program) (w : World) (K : PySem.W.Frag) (mg : Str → Option Value) (base : Heap) (k : Nat) (x : Str) (ps : List Str) (sp : Sp) : Prop where
  gl : mg x = some (.ref (He.ga K x))
  kp : PySem.W.keepIn K (.ref (He.ga K x)) = true
  ex : ∃ fd, fdAt K (He.ga K x) = some fd ∧ BindsE fd ps ∧ FnOk P w K mg base (CXN P w) k (He.ga K x) fd ps sp
/-- how a text's arguments bind when all are given -/
def BindAll (x : Str) (st : Stmt) (ps : List Str) : Prop := ∀ (kV doc pm : Value) (an : Option Addr) (cdv ct : Value) (us : List Value), us.length = ps.length →
  bindArgs (PySem.W.fnOf x x (defArgs st) (defBody st) (defScope st) .none kV doc pm an cdv ct) ⟨us, []⟩ = pure (ps.zip us)
abbrev FnAt (K : PySem.W.Frag) (x : Str) (st : Stmt) : Prop := ∃ fd, FunD K x x (defArgs st) (defBody st) (defScope st) [] [] (He.ga K x) fd
section
variable {P : Program} {w : World} {K : PySem.W.Frag} {mg : Str → Option Value} {base : Heap}
theorem Ok.mk' {x : Str} {st : Stmt} {N ps : List Str} {k : Nat} {sp : Sp} (G : mg x = some (.ref (He.ga K x))) (F : FnAt K x st) (b : BindAll x st ps) (S : FnScope N ps (defScope st)) (len : ∀ vs H Q E, sp vs H Q E → vs.length = ps.length)
    (body : ∀ (cdv : Value) (A : Around) (outer : List Env) (s : Shared) (H : Hp) (vs : List V) (Q : VK) (E : XK), Room k (A.deeper (envOfC x (defScope st) s.heap.objs.size (He.ga K x) cdv)) → sp vs H Q E →
      ∃ t, PSs (cxOf (CXN P w) P w K mg base N x (defScope st) (He.ga K x) cdv A outer s H E) (defBody st) t ∧ t { nx := fun _ H' => Q .non H', rt := Q } (start N vs) H) : Ok P w K mg base (k + 1) x ps sp := by
  obtain ⟨fd, F⟩ := F
  have e : fdAt K (He.ga K x) = some fd := by
    obtain ⟨oc, od, dV, kV, doc, pm, an, cdv, ct, osl, rfl, lk, _⟩ := F.ex
    unfold fdAt
    rw [lk]
  exact ⟨G, F.kp, fd, e, F.bindsA b, F.ok S len body⟩
theorem Ok.mono {x : Str} {ps : List Str} {j k : Nat} {sp : Sp} (G : Ok P w K mg base j x ps sp) (h : j ≤ k) : Ok P w K mg base k x ps sp := by
  obtain ⟨g, kp, fd, fe, b, F⟩ := G
  exact ⟨g, kp, fd, fe, b, F.mono h⟩
theorem Ok.imp {x : Str} {ps : List Str} {k : Nat} {sp sp' : Sp} (G : Ok P w K mg base k x ps sp) (h : ∀ vs H Q E, sp' vs H Q E → sp vs H Q E) : Ok P w K mg base k x ps sp' := by
  obtain ⟨g, kp, fd, fe, b, F⟩ := G
  exact ⟨g, kp, fd, fe, b, F.imp h⟩
end
section
variable {X : Cx}
/-- nothing is let out -/
theorem pn0 : Passes (CXN X.prog X.w) X E0 := fun _ _ _ _ _ _ _ h => by
  obtain ⟨_, _, _, _, _, _, _, _, _, _, _, _, z⟩ := h
  exact z.elim
/-- what a callee lets out leaves this def too -/
theorem pnx {E : XK} (tk : L2N.Takes X (fun cls d _ H => E cls d H)) : Passes (CXN X.prog X.w) X E := L2N.passes_call tk fun _ _ _ _ h => h
/-- f(e, ..) of an own def -/
theorem pe_f {j k : Nat} {x : Str} {ps : List Str} {sp : Sp} {E : XK} {p pos : Pos} {e : Expr} {es : List Expr} {t : TA} (G : Ok X.prog X.w X.K X.mg X.base j x ps sp) (hr : Room k X.A) (hx : Passes (CXN X.prog X.w) X E) (ha : PA X (e :: es) t)
    (hk : j ≤ k := by first | decide | omega) (hg : Gl X x := by rfl) (hdb : (x == ("__debug__" : Str)) = false := by decide)
    (he : starEach (e :: es) X.env = (false, eval e X.env) :: starEach es X.env := by rfl) (hpl : (backTo pos (starEach es X.env)).any (·.1) = false := by rfl) :
    PE X (.Call (.Name x p) (e :: es) [] pos) (tCall sp [] E t) := by
  obtain ⟨g, kp, fd, fe, b, F⟩ := G
  exact pe_call F (hr.mono hk) hg g kp b.binds .nil hx ha hdb he hpl
/-- f() -/
theorem pe_f0 {j k : Nat} {x : Str} {ps : List Str} {sp : Sp} {E : XK} {p pos : Pos} (G : Ok X.prog X.w X.K X.mg X.base j x ps sp) (hr : Room k X.A) (hx : Passes (CXN X.prog X.w) X E)
    (hk : j ≤ k := by first | decide | omega) (hg : Gl X x := by rfl) (hdb : (x == ("__debug__" : Str)) = false := by decide) :
    PE X (.Call (.Name x p) [] [] pos) (tCall sp [] E tNil) := by
  obtain ⟨g, kp, fd, fe, b, F⟩ := G
  exact pe_call0 F (hr.mono hk) hg g kp b.binds .nil hx hdb
/-- a constant of the module -/
theorem pe_gi {x : Str} {i : Int} {pos : Pos} (h : ∃ t, X.mg x = some (.int i t)) (hg : Gl X x := by rfl) (hd : (x == ("__debug__" : Str)) = false := by decide) : PE X (.Name x pos) (tC (.int i)) := by
  obtain ⟨t, h⟩ := h
  exact pe_glob hg h ⟨t, rfl⟩ hd
theorem pe_gs {x z : Str} {pos : Pos} (h : ∃ t, X.mg x = some (.str z t)) (hg : Gl X x := by rfl) (hd : (x == ("__debug__" : Str)) = false := by decide) : PE X (.Name x pos) (tC (.str z)) := by
  obtain ⟨t, h⟩ := h
  exact pe_glob hg h ⟨t, rfl⟩ hd
end
/-- what is known of an own exception class without __init__ -/
structure Exn (K : PySem.W.Frag) (mg : Str → Option Value) (x : Str) : Prop where
  gl : mg x = some (.ref (He.ga K x))
  ok : (He.Fa.exc x).ok K = true
/-- raise X('..') -/
theorem ps_rz {X : Cx} {E : XK} {x m : Str} {j : Nat} {p p2 pos pos' : Pos} (T : Exn X.K X.mg x) (tk : L2N.Takes X (fun cls d _ H => E cls d H)) (hc : X.calm = true := by rfl) (hg : Gl X x := by rfl) (hdb : (x == ("__debug__" : Str)) = false := by decide) :
    PS X (.Raise (some (.Call (.Name x p) [.Constant (.str m) j p2] [] pos)) none pos') (fun _ _ H => E (.ref (He.ga X.K x)) none H) := by
  obtain ⟨a, b, c, d⟩ := He.exc_ok T.ok
  exact L2N.ps_raise hc tk (L2N.pmk_own PySem.F.excBase_ValueError a T.gl b (raises_own c d) hg hdb)

/-! heaps -/
theorem Same.new {H : Hp} {p : Addr} {o : HO} (h : H p = none) : Same H (upd H p o) := fun a u e => by
  rw [upd_ne (ne_of_none e h)]
  exact e
theorem Same.tup {K : PySem.W.Frag} {H H' : Hp} {a : Addr} {xs : List V} (e : Same H H') (h : SqT K H a xs) : SqT K H' a xs := by
  rcases h with (h | ⟨o, h⟩) | h
  · exact .inl (.inl (e _ _ h))
  · exact .inl (.inr ⟨o, e _ _ h⟩)
  · exact .inr h
theorem tup_s {K : PySem.W.Frag} {H H' : Hp} {a : Addr} {xs : List V} (e : Same H H') (h : SqT K H a xs) : SqT K H' a xs := Same.tup e h
theorem tupOf {K : PySem.W.Frag} {H : Hp} {a : Addr} {xs : List V} (h : H a = some (.tup xs)) : SqT K H a xs := .inl (.inl h)
theorem lstOf {K : PySem.W.Frag} {H : Hp} {a : Addr} {xs : List V} (h : H a = some (.lst xs)) : SqL K H a xs := .inl (.inl h)
/-- the dice: a list of two ints -/
def Dice (H : Hp) (a : Addr) : Prop := ∃ x k : Int, H a = some (.lst [.int x, .int k])
/-- all but the dice at a is as it was -/
structure But (a : Addr) (H H' : Hp) : Prop where
  d0 : Dice H a
  d1 : Dice H' a
  kp : ∀ b o, H b = some o → b ≠ a → H' b = some o
theorem Dice.same {H H' : Hp} {a : Addr} (d : Dice H a) (s : Same H H') : Dice H' a := by
  obtain ⟨x, k, h⟩ := d
  exact ⟨x, k, s _ _ h⟩
theorem Dice.ne {H : Hp} {a p : Addr} (d : Dice H a) (h : H p = none) : p ≠ a := by
  obtain ⟨x, k, h1⟩ := d
  exact (ne_of_none h1 h).symm
theorem But.refl {a : Addr} {H : Hp} (d : Dice H a) : But a H H := ⟨d, d, fun _ _ h _ => h⟩
theorem But.same {a : Addr} {H H1 H2 : Hp} (b : But a H H1) (s : Same H1 H2) : But a H H2 := ⟨b.d0, b.d1.same s, fun c o h n => s c o (b.kp c o h n)⟩
theorem But.of {a : Addr} {H H1 : Hp} (d : Dice H a) (s : Same H H1) : But a H H1 := (But.refl d).same s
theorem But.trans {a : Addr} {H H1 H2 : Hp} (b : But a H H1) (c : But a H1 H2) : But a H H2 := ⟨b.d0, c.d1, fun d o h n => c.kp d o (b.kp d o h n) n⟩
theorem But.new {a : Addr} {H H1 : Hp} {p : Addr} {o : HO} (b : But a H H1) (h : H1 p = none) : But a H (upd H1 p o) := b.same (Same.new h)
theorem But.free {a : Addr} {H H1 : Hp} {p : Addr} (b : But a H H1) (h : H1 p = none) : H p = none := by
  cases e : H p with
  | none => rfl
  | some o =>
    by_cases hp : p = a
    · subst hp
      exact absurd rfl (b.d1.ne h)
    · rw [b.kp p o e hp] at h
      cases h
/-- a change of an object that H does not know -/
theorem But.mut {a : Addr} {H H1 : Hp} {p : Addr} {o : HO} (b : But a H H1) (h : H p = none) (np : p ≠ a) : But a H (upd H1 p o) := by
  refine ⟨b.d0, ?_, fun c u e n => ?_⟩
  · obtain ⟨x, k, h1⟩ := b.d1
    exact ⟨x, k, by rw [upd_ne np.symm]; exact h1⟩
  · rw [upd_ne (ne_of_none e h)]
    exact b.kp c u e n
theorem But.tup {K : PySem.W.Frag} {a : Addr} {H H' : Hp} {b : Addr} {xs : List V} (e : But a H H') (h : SqT K H b xs) : SqT K H' b xs := by
  obtain ⟨x, k, hd⟩ := e.d0
  rcases h with (h | ⟨o, h⟩) | h
  · exact .inl (.inl (e.kp _ _ h fun z => by subst z; rw [hd] at h; cases h))
  · exact .inl (.inr ⟨o, e.kp _ _ h fun z => by subst z; rw [hd] at h; cases h⟩)
  · exact .inr h
/-- a change of a list never bears on a tuple -/
theorem tup_mut {K : PySem.W.Frag} {H : Hp} {a p : Addr} {o : HO} {xs ys : List V} (hp : H p = some (.lst ys)) (h : SqT K H a xs) : SqT K (upd H p o) a xs := by
  rcases h with (h | ⟨u, h⟩) | h
  · exact .inl (.inl (by rw [upd_ne (ne_of h hp (by intro z; cases z))]; exact h))
  · exact .inl (.inr ⟨u, by rw [upd_ne (ne_of h hp (by intro z; cases z))]; exact h⟩)
  · exact .inr h
theorem sz {n : Nat} (h : n ≤ 100000) : n ≤ sizeLine := Nat.le_trans h (by decide)
theorem szl {n : Nat} (h : n < 100000) : n < sizeLine := Nat.lt_of_lt_of_le h (by decide)
theorem if_t {c : Bool} {A B : Prop} (hc : c = true) (h : A) : if c = true then A else B := by
  rw [if_pos hc]
  exact h
theorem if_f {c : Bool} {A B : Prop} (hc : c = false) (h : B) : if c = true then A else B := by
  rw [hc, if_neg Bool.false_ne_true]
  exact h
theorem if_b {c : Bool} {A B : Prop} (h1 : c = true → A) (h2 : c = false → B) : if c = true then A else B := by
  cases c with
  | true => exact if_t rfl (h1 rfl)
  | false => exact if_f rfl (h2 rfl)
end RG
/-! ### data -/
namespace RG
open PySem PySem.Spec PyProof.Rows L2
mutual
theorem Same.dp {K : PySem.W.Frag} {H H' : Hp} (s : Same H H') : ∀ {v : V} {d : PyData}, Dp K H v d → Dp K H' v d
  | _, _, .non => .non
  | _, _, .bl b => .bl b
  | _, _, .int i => .int i
  | _, _, .str x => .str x
  | _, _, .lst h a => .lst (s.seq h) (Same.dpAll s a)
  | _, _, .tup h a => .tup (RG.Same.tup s h) (Same.dpAll s a)
theorem Same.dpAll {K : PySem.W.Frag} {H H' : Hp} (s : Same H H') : ∀ {vs : List V} {ds : List PyData}, DpAll K H vs ds → DpAll K H' vs ds
  | _, _, .nil => .nil
  | _, _, .cons a b => .cons (Same.dp s a) (Same.dpAll s b)
end
theorem dp_s {K : PySem.W.Frag} {H H' : Hp} {v : V} {d : PyData} (e : Same H H') (h : Dp K H v d) : Dp K H' v d := Same.dp e h
theorem dps_s {K : PySem.W.Frag} {H H' : Hp} {v : List V} {d : List PyData} (e : Same H H') (h : DpAll K H v d) : DpAll K H' v d := Same.dpAll e h
mutual
/-- no list, no dict within -/
def imm : PyData → Bool
  | .none => true
  | .bool _ => true
  | .int _ => true
  | .str _ => true
  | .tuple xs => immAll xs
  | .list _ => false
  | .dict _ => false
def immAll : List PyData → Bool
  | [] => true
  | x :: xs => imm x && immAll xs
end
mutual
theorem But.dp {K : PySem.W.Frag} {a : Addr} {H H' : Hp} (s : But a H H') : ∀ {v : V} {d : PyData}, imm d = true → Dp K H v d → Dp K H' v d
  | _, _, _, .non => .non
  | _, _, _, .bl b => .bl b
  | _, _, _, .int i => .int i
  | _, _, _, .str x => .str x
  | _, _, i, .lst h a => by simp [imm] at i
  | _, _, i, .tup h a => .tup (s.tup h) (But.dpAll s (by simpa [imm] using i) a)
theorem But.dpAll {K : PySem.W.Frag} {a : Addr} {H H' : Hp} (s : But a H H') : ∀ {vs : List V} {ds : List PyData}, immAll ds = true → DpAll K H vs ds → DpAll K H' vs ds
  | _, _, _, .nil => .nil
  | _, _, i, .cons a b => by
    simp [immAll] at i
    exact .cons (But.dp s i.1 a) (But.dpAll s i.2 b)
end
theorem dpAll_len {K : PySem.W.Frag} {H : Hp} : ∀ {vs : List V} {ds : List PyData}, DpAll K H vs ds → vs.length = ds.length
  | _, _, .nil => rfl
  | _, _, .cons _ b => by simp [dpAll_len b]
theorem dpAll_get {K : PySem.W.Frag} {H : Hp} : ∀ {vs : List V} {ds : List PyData} {i : Nat} {d : PyData}, DpAll K H vs ds → ds[i]? = some d → ∃ v, vs[i]? = some v ∧ Dp K H v d
  | _, _, _, _, .nil, e => by simp at e
  | _, _, 0, _, .cons a _, e => by
    simp at e
    subst e
    exact ⟨_, rfl, a⟩
  | _, _, i + 1, d, .cons _ b, e => by
    obtain ⟨v, h1, h2⟩ := dpAll_get (i := i) (d := d) b (by simpa using e)
    exact ⟨v, by simpa using h1, h2⟩
theorem dpAll_getV {K : PySem.W.Frag} {H : Hp} : ∀ {vs : List V} {ds : List PyData} {i : Nat} {v : V}, DpAll K H vs ds → vs[i]? = some v → ∃ d, ds[i]? = some d ∧ Dp K H v d
  | _, _, _, _, .nil, e => by simp at e
  | _, _, 0, _, .cons a _, e => by
    simp at e
    subst e
    exact ⟨_, rfl, a⟩
  | _, _, i + 1, d, .cons _ b, e => by
    obtain ⟨v, h1, h2⟩ := dpAll_getV (i := i) b (by simpa using e)
    exact ⟨v, by simpa using h1, h2⟩
theorem dpAll_app {K : PySem.W.Frag} {H : Hp} : ∀ {vs us : List V} {ds es : List PyData}, DpAll K H vs ds → DpAll K H us es → DpAll K H (vs ++ us) (ds ++ es)
  | _, _, _, _, .nil, h => h
  | _, _, _, _, .cons a b, h => .cons a (dpAll_app b h)
theorem dpAll_ints {K : PySem.W.Frag} {H : Hp} : ∀ ns : List Int, DpAll K H (ns.map V.int) (ns.map PyData.int)
  | [] => .nil
  | n :: ns => .cons (.int n) (dpAll_ints ns)
def tyD : PyData → String
  | .none => "NoneType"
  | .bool _ => "bool"
  | .int _ => "int"
  | .str _ => "str"
  | .list _ => "list"
  | .tuple _ => "tuple"
  | .dict _ => "dict"
theorem dpAll_intsV {K : PySem.W.Frag} {H : Hp} : ∀ {ns : List Int} {vs : List V}, DpAll K H vs (ns.map PyData.int) → vs = ns.map V.int
  | [], _, .nil => rfl
  | n :: ns, _, .cons a b => by
    cases a
    rw [dpAll_intsV b]
    rfl
theorem dp_ty {K : PySem.W.Frag} {H : Hp} {v : V} {d : PyData} (h : Dp K H v d) : TyX K H v (.type (tyD d)) := by
  cases h with
  | non => exact .base .non
  | bl b => exact .base (.bl b)
  | int i => exact .base (.int i)
  | str x => exact .base (.str x)
  | lst h a =>
    rcases h with (h | ⟨o, h⟩) | ⟨o, its, n, h1, h2, _⟩
    · exact .base (.lst h)
    · exact .base (.frz h)
    · exact .kList h1 h2
  | tup h a =>
    rcases h with (h | ⟨o, h⟩) | ⟨o, its, n, h1, h2, _⟩
    · exact .base (.tup h)
    · exact .fTuple h
    · exact .kTuple h1 h2
def isIntD : PyData → Bool
  | .int _ => true
  | .bool _ => true
  | _ => false
def isBoolD : PyData → Bool
  | .bool _ => true
  | _ => false
def isTupD : PyData → Bool
  | .tuple _ => true
  | _ => false
def isStrD : PyData → Bool
  | .str _ => true
  | _ => false
def isListD : PyData → Bool
  | .list _ => true
  | _ => false
section
variable {K : PySem.W.Frag} {H : Hp} {v : V} {d : PyData} {Q : VK}
theorem isi_int (h : Dp K H v d) (q : Q (.bl (isIntD d)) H) : rIsi K [v, .ty "int"] H Q := by
  refine ⟨v, _, _, _, isIntD d, rfl, .ty _, dp_ty h, ?_, q⟩
  cases d <;> exact kit_ty (by kernel_rfl)
theorem isi_bool (h : Dp K H v d) (q : Q (.bl (isBoolD d)) H) : rIsi K [v, .ty "bool"] H Q := by
  refine ⟨v, _, _, _, isBoolD d, rfl, .ty _, dp_ty h, ?_, q⟩
  cases d <;> exact kit_ty (by kernel_rfl)
theorem isi_tuple (h : Dp K H v d) (q : Q (.bl (isTupD d)) H) : rIsi K [v, .ty "tuple"] H Q := by
  refine ⟨v, _, _, _, isTupD d, rfl, .ty _, dp_ty h, ?_, q⟩
  cases d <;> exact kit_ty (by kernel_rfl)
theorem isi_str (h : Dp K H v d) (q : Q (.bl (isStrD d)) H) : rIsi K [v, .ty "str"] H Q := by
  refine ⟨v, _, _, _, isStrD d, rfl, .ty _, dp_ty h, ?_, q⟩
  cases d <;> exact kit_ty (by kernel_rfl)
theorem isi_list (h : Dp K H v d) (q : Q (.bl (isListD d)) H) : rIsi K [v, .ty "list"] H Q := by
  refine ⟨v, _, _, _, isListD d, rfl, .ty _, dp_ty h, ?_, q⟩
  cases d <;> exact kit_ty (by kernel_rfl)
theorem dp_tuple {ds : List PyData} (h : Dp K H v (.tuple ds)) : ∃ a xs, v = .ref a ∧ SqT K H a xs ∧ DpAll K H xs ds := by
  cases h with
  | tup h a => exact ⟨_, _, rfl, h, a⟩
theorem dp_list {ds : List PyData} (h : Dp K H v (.list ds)) : ∃ a xs, v = .ref a ∧ SqL K H a xs ∧ DpAll K H xs ds := by
  cases h with
  | lst h a => exact ⟨_, _, rfl, h, a⟩
theorem dp_int {i : Int} (h : Dp K H v (.int i)) : v = .int i := by
  cases h
  rfl
theorem dp_str {x : Str} (h : Dp K H v (.str x)) : v = .str x := by
  cases h
  rfl
/-- an item of a tuple that is data -/
theorem ix_data {ds : List PyData} {j : Nat} {e : PyData} {u : V} (h : Dp K H v (.tuple ds)) (hj : ds[j]? = some e) (q : ∀ u, Dp K H u e → Q u H) : rIxT K v (.int (j : Nat)) H Q := by
  obtain ⟨a, xs, rfl, hs, ha⟩ := dp_tuple h
  obtain ⟨u, hu, du⟩ := dpAll_get ha hj
  exact ⟨a, xs, _, u, rfl, rfl, hs, atI_nat hu, q u du⟩
theorem len_tup {ds : List PyData} (h : Dp K H v (.tuple ds)) (q : Q (.int (ds.length : Nat)) H) : ∃ x n, [v] = [x] ∧ LenV K x H n ∧ Q (.int (n : Nat)) H := by
  obtain ⟨a, xs, rfl, hs, ha⟩ := dp_tuple h
  exact ⟨_, ds.length, rfl, .inr ⟨xs, hs, (dpAll_len ha).symm⟩, q⟩
end
end RG
/-! ### readings, step by step -/
namespace RG
open PySem PySem.Spec PyProof.Rows L2
abbrev oAdd : R2 := rI0 fun i j => .int (i + j)
abbrev oSub : R2 := rI0 fun i j => .int (i - j)
abbrev oMul : R2 := rI CMul fun i j => .int (i * j)
abbrev oMulW : R2 := rI CMulW fun i j => .int (i * j)
abbrev oDiv : R2 := rI CDivW fun i j => .int (i / j)
abbrev oMod : R2 := rI (fun _ j => 0 < j) fun i j => .int (i % j)
abbrev oPow : R2 := rI CPow fun i j => .int (i ^ j.toNat)
abbrev oLt : R2 := rI0 fun i j => .bl (decide (i < j))
abbrev oLe : R2 := rI0 fun i j => .bl (decide (i ≤ j))
abbrev oGt : R2 := rI0 fun i j => .bl (decide (j < i))
abbrev oGe : R2 := rI0 fun i j => .bl (decide (j ≤ i))
def oIsN : R2 := fun x y H Q => y = .non ∧ Q (.bl (decide (x = .non))) H
def oNotN : R2 := fun x y H Q => y = .non ∧ Q (.bl (!decide (x = .non))) H
def oAddS : R2 := fun x y H Q => ∃ i j, x = .str i ∧ y = .str j ∧ i.length + j.length ≤ sizeLine ∧ Q (.str (i ++ j)) H
def cLen (K : PySem.W.Frag) : List V → Hp → VK → Prop := fun xs H Q => ∃ x n, xs = [x] ∧ LenV K x H n ∧ Q (.int (n : Nat)) H
def cMax2 : List V → Hp → VK → Prop := fun xs H Q => ∃ i j, xs = [.int i, .int j] ∧ Q (.int (if j > i then j else i)) H
def cMin2 : List V → Hp → VK → Prop := fun xs H Q => ∃ i j, xs = [.int i, .int j] ∧ Q (.int (if j < i then j else i)) H
def cInt1 : List V → Hp → VK → Prop := fun xs H Q => (∃ i, xs = [.int i] ∧ Q (.int i) H) ∨ ∃ k, xs = [.bl k] ∧ Q (.int (if k then 1 else 0)) H
def cTuple (K : PySem.W.Frag) : List V → Hp → VK → Prop := fun xs H Q => ∃ p ys, xs = [.ref p] ∧ ((SqL K H p ys ∧ ∀ l, H l = none → Q (.ref l) (upd H l (.tup ys))) ∨ (SqT K H p ys ∧ Q (.ref p) H))
def cList (K : PySem.W.Frag) : List V → Hp → VK → Prop := fun xs H Q => ∃ p ys, xs = [.ref p] ∧ (SqL K H p ys ∨ SqT K H p ys) ∧ ∀ l, H l = none → Q (.ref l) (upd H l (.lst ys))
abbrev NewL (xs : List V) (H : Hp) (Q : VK) : Prop := xs.length ≤ sizeLine ∧ ∀ p, H p = none → Q (.ref p) (upd H p (.lst xs))
abbrev NewT (xs : List V) (H : Hp) (Q : VK) : Prop := xs.length ≤ sizeLine ∧ ∀ p, H p = none → Q (.ref p) (upd H p (.tup xs))
def tRz (K : PySem.W.Frag) (E : XK) (x : Str) : TS := fun _ _ H => E (.ref (He.ga K x)) none H
section
variable {K : PySem.W.Frag} {σ : L2.St} {H : Hp} {D : Ends} {t u : TS} {te ta tb tc : TE} {Q : VK} {g : TG} {x y v : V} {i : Nat} {tA tB' : TT} {QB : Bool → Hp → Prop} {ts : TA} {QA : List V → Hp → Prop} {E : XK} {sp : Sp}
theorem w_seq (h : t { D with nx := u D } σ H) : tSeq t u D σ H := h
theorem w_next (h : D.nx σ H) : tNext D σ H := h
theorem w_ret (h : te σ H D.rt) : tRet te D σ H := h
theorem w_retN (h : D.rt .non H) : tRetN D σ H := h
theorem w_drop (h : te σ H fun _ H1 => D.nx σ H1) : tDrop te D σ H := h
theorem w_ifs (h : tA σ H fun b H1 => if b = true then t D σ H1 else u D σ H1) : tIfS tA t u D σ H := h
theorem w_set (h : te σ H fun x H1 => D.nx (σ.set i (some x)) H1) : tAsg te (gName i) D σ H := h
theorem w_asg (h : te σ H fun x H1 => g x σ H1 D.nx) : tAsg te g D σ H := h
theorem w_par {j : Nat} (h : ts σ H fun vs H1 => ∃ v w, vs = [v, w] ∧ D.nx ((σ.set i (some v)).set j (some w)) H1) : tPar i j ts D σ H := h
theorem w_rz (h : E (.ref (He.ga K z)) none H) : tRz K E z D σ H := h
theorem w_var (e : σ[i]? = some (some v)) (h : Q v H) : tVar i σ H Q := ⟨v, e, h⟩
theorem w_c (h : Q v H) : tC v σ H Q := h
theorem w_op {r : R2} (h : ta σ H fun x H1 => tb σ H1 fun y H2 => r x y H2 Q) : tOp r ta tb σ H Q := h
theorem w_un {r : V → Hp → VK → Prop} (h : ta σ H fun x H1 => r x H1 Q) : tUn r ta σ H Q := h
theorem w_I0 {f : Int → Int → V} {m n : Int} (h : Q (f m n) H) : rI0 f (.int m) (.int n) H Q := ⟨m, n, rfl, rfl, h⟩
theorem w_I {C : Int → Int → Prop} {f : Int → Int → V} {m n : Int} (c : C m n) (h : Q (f m n) H) : rI C f (.int m) (.int n) H Q := ⟨m, n, rfl, rfl, c, h⟩
theorem w_U {f : Int → V} {m : Int} (h : Q (f m) H) : rU f (.int m) H Q := ⟨m, rfl, h⟩
theorem w_eq (e : scal x y = true) (h : Q (.bl (decide (x = y))) H) : rEq x y H Q := ⟨e, h⟩
theorem w_ne (e : scal x y = true) (h : Q (.bl (!decide (x = y))) H) : rNe x y H Q := ⟨e, h⟩
theorem w_eqI {m n : Int} (h : Q (.bl (decide (m = n))) H) : rEq (.int m) (.int n) H Q := ⟨rfl, by
  have e : decide (V.int m = V.int n) = decide (m = n) := by simp
  rw [e]
  exact h⟩
theorem w_neI {m n : Int} (h : Q (.bl (!decide (m = n))) H) : rNe (.int m) (.int n) H Q := ⟨rfl, by
  have e : decide (V.int m = V.int n) = decide (m = n) := by simp
  rw [e]
  exact h⟩
theorem w_eqS {m n : Str} (h : Q (.bl (decide (m = n))) H) : rEq (.str m) (.str n) H Q := ⟨rfl, by
  have e : decide (V.str m = V.str n) = decide (m = n) := by simp
  rw [e]
  exact h⟩
theorem w_isN (h : Q (.bl (decide (x = .non))) H) : oIsN x .non H Q := ⟨rfl, h⟩
theorem w_notN (h : Q (.bl (!decide (x = .non))) H) : oNotN x .non H Q := ⟨rfl, h⟩
theorem w_chain {r r' : R2} (h : ta σ H fun x H1 => tb σ H1 fun y H2 => r x y H2 fun z H3 => ∃ k, z = .bl k ∧ if k = true then tc σ H3 fun w H4 => r' y w H4 Q else Q (.bl false) H3) : tChain r r' ta tb tc σ H Q := h
theorem w_test (h : te σ H fun x H1 => ∃ k, x = .bl k ∧ QB k H1) : tTest te σ H QB := h
theorem w_B (h : te σ H fun x H1 => ∃ k, x = .bl k ∧ QB k H1) : tB te σ H QB := h
theorem w_and (h : tA σ H fun c H1 => if c = true then tB' σ H1 QB else QB false H1) : tAnd tA tB' σ H QB := h
theorem w_or (h : tA σ H fun c H1 => if c = true then QB true H1 else tB' σ H1 QB) : tOr tA tB' σ H QB := h
theorem w_not (h : tA σ H fun c H1 => QB (!c) H1) : tNot tA σ H QB := h
theorem w_andV (h : ta σ H fun x H1 => ∃ c, x = .bl c ∧ if c = true then tb σ H1 Q else Q (.bl false) H1) : tAndV ta tb σ H Q := h
theorem w_orV (h : ta σ H fun x H1 => ∃ c, x = .bl c ∧ if c = true then Q (.bl true) H1 else tb σ H1 Q) : tOrV ta tb σ H Q := h
theorem w_notV (h : ta σ H fun x H1 => ∃ c, x = .bl c ∧ Q (.bl (!c)) H1) : tNotV ta σ H Q := h
theorem w_if (h : tA σ H fun c H1 => if c = true then ta σ H1 Q else tb σ H1 Q) : tIf tA ta tb σ H Q := h
theorem w_nil (h : QA [] H) : tNil σ H QA := h
theorem w_cons (h : te σ H fun x H1 => ts σ H1 fun xs H2 => QA (x :: xs) H2) : tCons te ts σ H QA := h
theorem w_tup (h : ts σ H fun xs H1 => NewT xs H1 Q) : tTup ts σ H Q := h
theorem w_lst (h : ts σ H fun xs H1 => NewL xs H1 Q) : tLst ts σ H Q := h
theorem w_call (h : ts σ H fun vs H1 => sp (vs ++ []) H1 Q E) : tCall sp [] E ts σ H Q := h
theorem w_cb {r : List V → Hp → VK → Prop} (h : ts σ H fun vs H1 => r vs H1 Q) : tCB r ts σ H Q := h
theorem w_sl {r : V → Option Int → Option Int → Hp → VK → Prop} {tl th : TO} (h : te σ H fun x H1 => tl σ H1 fun l H2 => th σ H2 fun u H3 => r x l u H3 Q) : tSl r te tl th σ H Q := h
theorem w_part {QO : Option Int → Hp → Prop} (h : te σ H fun x H1 => ∃ k, x = .int k ∧ QO (some k) H1) : tPart te σ H QO := h
theorem w_noPart {QO : Option Int → Hp → Prop} (h : QO none H) : tNoPart σ H QO := h
theorem w_bm {T : String} {r : V → List V → Hp → VK → Prop} (h : te σ H fun x H1 => tyV K T x H1 ∧ ts σ H1 fun xs H2 => r x xs H2 Q) : tBM K T r te ts σ H Q := h
theorem w_bm0 {T : String} {r : V → List V → Hp → VK → Prop} (h : te σ H fun x H1 => tyV K T x H1 ∧ r x [] H1 Q) : tBM0 K T r te σ H Q := h
theorem w_sub {to ti : TE} {st : TSet} {R : L2.St → Hp → Prop} (h : to σ H fun o H1 => ti σ H1 fun i H2 => st o i v H2 fun H3 => R σ H3) : gSub to ti st v σ H R := h
theorem w_name {R : L2.St → Hp → Prop} (h : R (σ.set i (some v)) H) : gName i v σ H R := h
theorem w_max2 {m n : Int} (h : Q (.int (if n > m then n else m)) H) : cMax2 [.int m, .int n] H Q := ⟨m, n, rfl, h⟩
theorem w_min2 {m n : Int} (h : Q (.int (if n < m then n else m)) H) : cMin2 [.int m, .int n] H Q := ⟨m, n, rfl, h⟩
theorem w_intI {m : Int} (h : Q (.int m) H) : cInt1 [.int m] H Q := .inl ⟨m, rfl, h⟩
theorem w_intB {b : Bool} (h : Q (.int (if b then 1 else 0)) H) : cInt1 [.bl b] H Q := .inr ⟨b, rfl, h⟩
theorem w_lenT {a : Addr} {xs : List V} (s : SqT K H a xs) (h : Q (.int (xs.length : Nat)) H) : cLen K [.ref a] H Q := ⟨_, _, rfl, .inr ⟨xs, s, rfl⟩, h⟩
theorem w_lenL {a : Addr} {xs : List V} (s : SqL K H a xs) (h : Q (.int (xs.length : Nat)) H) : cLen K [.ref a] H Q := ⟨_, _, rfl, .inl ⟨xs, s, rfl⟩, h⟩
theorem w_lenS {z : Str} (s : z.length ≤ 100000) (h : Q (.int (z.length : Nat)) H) : cLen K [.str z] H Q := ⟨_, _, rfl, ⟨sz s, rfl⟩, h⟩
theorem w_lenD {d : List PyData} (s : Dp K H v (.tuple d)) (h : Q (.int (d.length : Nat)) H) : cLen K [v] H Q := by
  obtain ⟨a, xs, rfl, hs, ha⟩ := dp_tuple s
  exact ⟨_, _, rfl, .inr ⟨xs, hs, (dpAll_len ha).symm⟩, h⟩
theorem w_ixT {a : Addr} {xs : List V} {k : Int} (s : SqT K H a xs) (e : atI xs k = some v) (h : Q v H) : rIxT K (.ref a) (.int k) H Q := ⟨a, xs, k, v, rfl, rfl, s, e, h⟩
theorem w_ixL {a : Addr} {xs : List V} {k : Int} (s : SqL K H a xs) (e : atI xs k = some v) (h : Q v H) : rIxL K (.ref a) (.int k) H Q := ⟨a, xs, k, v, rfl, rfl, s, e, h⟩
theorem w_ixD {ds : List PyData} {j : Nat} {e : PyData} (s : Dp K H v (.tuple ds)) (hj : ds[j]? = some e) (q : ∀ u, Dp K H u e → Q u H) : rIxT K v (.int (j : Nat)) H Q := ix_data (u := .non) s hj q
theorem w_ixD0 {ds : List PyData} {e : PyData} (s : Dp K H v (.tuple (e :: ds))) (q : ∀ u, Dp K H u e → Q u H) : rIxT K v (.int 0) H Q := ix_data (j := 0) (u := .non) s rfl q
theorem w_ixD1 {ds : List PyData} {e e0 : PyData} (s : Dp K H v (.tuple (e0 :: e :: ds))) (q : ∀ u, Dp K H u e → Q u H) : rIxT K v (.int 1) H Q := ix_data (j := 1) (u := .non) s rfl q
theorem w_ixD2 {ds : List PyData} {e e0 e1 : PyData} (s : Dp K H v (.tuple (e0 :: e1 :: e :: ds))) (q : ∀ u, Dp K H u e → Q u H) : rIxT K v (.int 2) H Q := ix_data (j := 2) (u := .non) s rfl q
theorem w_setL {a : Addr} {xs : List V} {k : Int} {j : Nat} {R : Hp → Prop} (s : H a = some (.lst xs)) (e : ixN xs.length k = some j) (h : R (upd H a (.lst (xs.set j v)))) : rSetL (.ref a) (.int k) v H R := ⟨a, xs, k, j, rfl, rfl, s, e, h⟩
theorem w_app {a : Addr} {xs : List V} (s : H a = some (.lst xs)) (z : xs.length < 100000) (h : Q .non (upd H a (.lst (xs ++ [v])))) : rAppend (.ref a) [v] H Q := ⟨a, xs, v, rfl, rfl, s, szl z, h⟩
theorem w_eqD {d e : PyData} (hx : Dp K H x d) (hy : Dp K H y e) (sd : SeqAt.shaped d = true) (se : SeqAt.shaped e = true) (h : Q (.bl (PyData.eqv d e)) H) : rEqD K x y H Q := ⟨d, e, hx, hy, sd, se, h⟩
theorem w_neD {d e : PyData} (hx : Dp K H x d) (hy : Dp K H y e) (sd : SeqAt.shaped d = true) (se : SeqAt.shaped e = true) (h : Q (.bl (!PyData.eqv d e)) H) : rNeD K x y H Q := ⟨d, e, hx, hy, sd, se, h⟩
end
end RG
/-! ### loops and comprehensions -/
namespace RG
open PySem PySem.Spec PyProof.Rows L2
/-- what is left of a comprehension when its iterator stands -/
def LcGoal (J : It) (g : TG) (tt : TT) (te : TE) (vs : List Nat) (σ : L2.St) (H1 : Hp) (Q : VK) : Prop := ∀ D, H1 D = none → ∃ W : Nat → Nat → Hp → Prop, (∃ m, W 0 m (upd H1 D (.lst []))) ∧ ∀ i m H, W i m H →
  (J.stop i H ∧ Q (.ref D) H) ∨ (J.go i H ∧ ∃ Nx : Hp → Prop, (∀ H', Nx H' → ∃ m', m' < m ∧ W (i + 1) m' H') ∧ ∀ x H', J.yld i H x H' → g x (wipe σ vs) H' fun σ2 H2 => wipe σ2 vs = wipe σ vs ∧ tt σ2 H2 fun b H3 =>
    if b = true then te σ2 H3 fun y H4 => ∃ acc, H4 D = some (.lst acc) ∧ acc.length < sizeLine ∧ Nx (upd H4 D (.lst (acc ++ [y]))) else Nx H3)
def ForGoal (J : It) (g : TG) (tb : TS) (D : Ends) (σ : L2.St) (H1 : Hp) : Prop := ∃ W : Nat → Nat → L2.St → Hp → Prop, (∃ m, W 0 m σ H1) ∧ ∀ i m σ H, W i m σ H →
  (J.stop i H ∧ D.nx σ H) ∨ (J.go i H ∧ ∃ N : L2.St → Hp → Prop, (∀ σ' H', N σ' H' → ∃ m', m' < m ∧ W (i + 1) m' σ' H') ∧ ∀ x H', J.yld i H x H' → g x σ H' fun σ2 H2 => tb { D with nx := N, ct := N, bk := D.nx } σ2 H2)
/-- a turn's end that keeps an item, that keeps none -/
def LcNx (Iv : Nat → List V → Hp → Prop) (D : Addr) (i : Nat) (y : V) (H4 : Hp) : Prop := ∃ acc, H4 D = some (.lst acc) ∧ acc.length < sizeLine ∧ ∃ acc', acc'.length ≤ i + 1 ∧ (upd H4 D (.lst (acc ++ [y]))) D = some (.lst acc') ∧ Iv (i + 1) acc' (upd H4 D (.lst (acc ++ [y])))
def LcSk (Iv : Nat → List V → Hp → Prop) (D : Addr) (i : Nat) (H3 : Hp) : Prop := ∃ acc', acc'.length ≤ i + 1 ∧ H3 D = some (.lst acc') ∧ Iv (i + 1) acc' H3
section
variable {K : PySem.W.Frag} {σ : L2.St} {H : Hp} {D : Ends} {tb : TS} {te tl : TE} {Q : VK} {g : TG} {tt : TT} {wi : TI} {ta : TA} {vs : List Nat} {R : It → Hp → Prop} {J : It} {n : Nat} {G : Hp → Prop} {Y : Nat → Hp → V → Hp → Prop}
theorem w_lc (h : wi σ H fun J H1 => LcGoal J g tt te vs σ H1 Q) : tLc wi g tt te vs σ H Q := h
theorem w_for (h : wi σ H fun J H1 => ForGoal J g tb D σ H1) : tFor wi g tb D σ H := h
theorem w_rng1 (h : ta σ H fun vs H1 => ∃ j : Int, vs = [.int j] ∧ -(2 ^ 62) ≤ j ∧ j < 2 ^ 62 ∧ R (Itr 0 j.toNat) H1) : iRng1 ta σ H R := h
theorem w_rng2 (h : ta σ H fun vs H1 => ∃ i j : Int, vs = [.int i, .int j] ∧ (-(2 ^ 62) ≤ i ∧ i < 2 ^ 62 ∧ -(2 ^ 62) ≤ j ∧ j < 2 ^ 62) ∧ R (Itr i (j - i).toNat) H1) : iRng2 ta σ H R := h
theorem w_iList (h : tl σ H fun x H1 => ∃ a, x = .ref a ∧ (∃ xs, SqL K H1 a xs) ∧ R (Itl K a) H1) : iList K tl σ H R := h
theorem w_iTup (h : tl σ H fun x H1 => ∃ a, x = .ref a ∧ (∃ xs, SqT K H1 a xs) ∧ R (Itt K a) H1) : iTup K tl σ H R := h
theorem w_iEnum (h : ta σ H fun vs H1 => ∃ a xs, vs = [.ref a] ∧ SqL K H1 a xs ∧ R (Ite K a) H1) : iEnum K ta σ H R := h
theorem w_iZip (h : ta σ H fun vs H1 => ∃ a b xs ys, vs = [.ref a, .ref b] ∧ SqL K H1 a xs ∧ SqL K H1 b ys ∧ R (Itz K a b) H1) : iZip K ta σ H R := h
theorem for_go (w : Walk J n G Y) (Pv : Nat → L2.St → Hp → Prop) (h0 : Pv 0 σ H) (hG : ∀ i σ H, i ≤ n → Pv i σ H → G H)
    (hs : ∀ i x σ H H', i < n → Pv i σ H → Y i H x H' → g x σ H' fun σ2 H2 => tb { D with nx := Pv (i + 1), ct := Pv (i + 1), bk := D.nx } σ2 H2) (hd : ∀ σ H, Pv n σ H → D.nx σ H) : ForGoal J g tb D σ H := for_it w Pv h0 hG hs hd
theorem lc_go (w : Walk J n G Y) (hn : n ≤ 50000) (Iv : Addr → Nat → List V → Hp → Prop) (h0 : ∀ D, H D = none → Iv D 0 [] (upd H D (.lst [])))
    (hG : ∀ D i acc H', H D = none → H' D = some (.lst acc) → Iv D i acc H' → G H')
    (hs : ∀ D i acc x H' H'', H D = none → i < n → acc.length ≤ i → H' D = some (.lst acc) → Iv D i acc H' → Y i H' x H'' → g x (wipe σ vs) H'' fun σ2 H2 => wipe σ2 vs = wipe σ vs ∧ tt σ2 H2 fun b H3 =>
      if b = true then te σ2 H3 fun y H4 => LcNx (Iv D) D i y H4 else LcSk (Iv D) D i H3)
    (hd : ∀ D acc H', H D = none → H' D = some (.lst acc) → acc.length ≤ n → Iv D n acc H' → Q (.ref D) H') : LcGoal J g tt te vs σ H Q := fun D hD => by
  refine lc_it w (fun i H' => ∃ acc, acc.length ≤ i ∧ H' D = some (.lst acc) ∧ Iv D i acc H') ⟨[], Nat.le_refl _, upd_same, h0 D hD⟩ (fun i H' _ ⟨acc, _, a, b⟩ => hG D i acc H' hD a b) ?_ (fun H' ⟨acc, a, b, c⟩ => hd D acc H' hD b a c)
  rintro i x H' H'' hi ⟨acc, a, b, c⟩ y
  exact hs D i acc x H' H'' hD hi a b c y
theorem lc_nx {Iv : Nat → List V → Hp → Prop} {A : Addr} {i : Nat} {y : V} {H4 : Hp} {acc : List V} (hi : i < 90000) (hl : acc.length ≤ i) (h : H4 A = some (.lst acc)) (q : Iv (i + 1) (acc ++ [y]) (upd H4 A (.lst (acc ++ [y])))) : LcNx Iv A i y H4 :=
  ⟨acc, h, szl (by omega), acc ++ [y], by simp; omega, upd_same, q⟩
theorem lc_sk {Iv : Nat → List V → Hp → Prop} {A : Addr} {i : Nat} {H3 : Hp} {acc : List V} (hl : acc.length ≤ i) (h : H3 A = some (.lst acc)) (q : Iv (i + 1) acc H3) : LcSk Iv A i H3 := ⟨acc, by omega, h, q⟩
theorem w_lrg {tr : L2.St → Hp → (Int → Int → Hp → Prop) → Prop} (h : tr σ H fun a b H1 => RgOk a b ∧ ∀ q, H1 q = none → Q (.ref q) (upd H1 q (.lst (rgV a b)))) : tLstRg tr σ H Q := h
theorem w_rg1 {k : Int → Int → Hp → Prop} (h : te σ H fun x H1 => ∃ n : Int, x = .int n ∧ k 0 n H1) : tRg1 te σ H k := h
theorem w_yes {QB : Bool → Hp → Prop} (h : QB true H) : tYes σ H QB := h
theorem w_gtup {m : Nat} {t : TGs} {a : Addr} {xs : List V} {R : L2.St → Hp → Prop} (s : SqT K H a xs) (e : xs.length = m) (h : t xs σ H R) : gTup K m t (.ref a) σ H R := ⟨a, xs, rfl, s, e, h⟩
theorem w_gcons {t : TG} {u : TGs} {v : V} {r : List V} {R : L2.St → Hp → Prop} (h : t v σ H fun σ' H' => u r σ' H' R) : gCons t u (v :: r) σ H R := ⟨v, r, rfl, h⟩
theorem w_gnil {R : L2.St → Hp → Prop} (h : R σ H) : gNil [] σ H R := ⟨rfl, h⟩
end
end RG
/-! ### comprehensions that change nothing; slices; in -/
namespace RG
open PySem PySem.Spec PyProof.Rows L2
/-- behind i turns: all that stood stands, the list holds what the turns gave -/
def IvP (H : Hp) (l : List (List V)) (D : Addr) (i : Nat) (acc : List V) (H' : Hp) : Prop := Same H H' ∧ acc = (l.take i).flatten
section
variable {K : PySem.W.Frag} {σ : L2.St} {H : Hp} {te : TE} {Q : VK} {g : TG} {tt : TT} {vs : List Nat} {J : It} {n : Nat} {G : Hp → Prop} {Y : Nat → Hp → V → Hp → Prop}
theorem take_flat {l : List (List V)} {i : Nat} {x : List V} (h : l[i]? = some x) : (l.take (i + 1)).flatten = (l.take i).flatten ++ x := by
  rw [List.take_add_one, h]
  simp
theorem lc_pure (w : Walk J n G Y) (hn : n ≤ 50000) (l : List (List V)) (hl : l.length = n) (hG : ∀ H', Same H H' → G H')
    (hs : ∀ D i acc x H' H'', H D = none → i < n → acc.length ≤ i → H' D = some (.lst acc) → IvP H l D i acc H' → Y i H' x H'' → g x (wipe σ vs) H'' fun σ2 H2 => wipe σ2 vs = wipe σ vs ∧ tt σ2 H2 fun b H3 =>
      if b = true then te σ2 H3 fun y H4 => LcNx (IvP H l D) D i y H4 else LcSk (IvP H l D) D i H3)
    (hd : ∀ D H', H D = none → Same H H' → H' D = some (.lst l.flatten) → Q (.ref D) H') : LcGoal J g tt te vs σ H Q := by
  refine lc_go w hn (IvP H l) (fun D hD => ⟨Same.new hD, rfl⟩) (fun D i acc H' hD _ iv => hG H' iv.1) hs fun D acc H' hD hH' _ iv => hd D H' hD iv.1 ?_
  rw [hH', iv.2, List.take_of_length_le (by omega)]
theorem lcp_nx {l : List (List V)} {A : Addr} {i : Nat} {y : V} {acc : List V} {H' H4 : Hp} (hD : H A = none) (hi : i < 90000) (hl : acc.length ≤ i) (h : H' A = some (.lst acc)) (iv : IvP H l A i acc H') (s : Same H' H4) (e : l[i]? = some [y]) : LcNx (IvP H l A) A i y H4 :=
  lc_nx hi hl (s _ _ h) ⟨fun b o q => by
    rw [upd_ne (ne_of_none q hD)]
    exact s _ _ (iv.1 _ _ q), by rw [take_flat e, iv.2]⟩
theorem lcp_sk {l : List (List V)} {A : Addr} {i : Nat} {acc : List V} {H' H4 : Hp} (hl : acc.length ≤ i) (h : H' A = some (.lst acc)) (iv : IvP H l A i acc H') (s : Same H' H4) (e : l[i]? = some []) : LcSk (IvP H l A) A i H4 :=
  lc_sk hl (s _ _ h) ⟨iv.1.trans s, by rw [take_flat e, iv.2, List.append_nil]⟩
theorem flat_one {α : Type} (f : α → V) : ∀ l : List α, (l.map fun x => [f x]).flatten = l.map f
  | [] => rfl
  | x :: r => by
    simp only [List.map_cons, List.flatten_cons, flat_one f r]
    rfl
theorem flat_if {α : Type} (p : α → Bool) (f : α → V) : ∀ l : List α, (l.map fun x => if p x = true then [f x] else []).flatten = (l.filter p).map f
  | [] => rfl
  | x :: r => by
    simp only [List.map_cons, List.flatten_cons, flat_if p f r, List.filter_cons]
    split <;> rfl
theorem cutV_tail (x : V) (xs : List V) : cutV (x :: xs) (some 1) none = xs := by
  have h1 : HT.sIx (x :: xs).length 0 (some 1) = min 1 (x :: xs).length := HT.sIx_nat _ 0 1
  have h2 : min 1 (x :: xs).length = 1 := by
    rw [List.length_cons]
    omega
  unfold cutV
  rw [h1, h2, HT.sIx_none]
  simp
/-- t[1:] of a tuple that isn't empty -/
theorem w_sl1 {a : Addr} {x : V} {xs : List V} (s : SqT K H a (x :: xs)) (h : ∀ p, H p = none → Q (.ref p) (upd H p (.tup xs))) : rSlA K (.ref a) (some 1) none H Q := by
  refine ⟨a, _, rfl, s, fun z => ?_, fun _ p np => ?_⟩
  · have h1 : HT.sIx (x :: xs).length 0 (some 1) = min 1 (x :: xs).length := HT.sIx_nat _ 0 1
    rw [h1, List.length_cons] at z
    omega
  · rw [cutV_tail]
    exact h p np
theorem w_inT {x : V} {a : Addr} {xs : List V} (s : SqT K H a xs) (fx : flatV x = true) (fs : xs.all flatV = true) (h : Q (.bl (inV x xs)) H) : rIn K false x (.ref a) H Q := ⟨a, xs, rfl, .inr s, fx, fs, h⟩
theorem w_inL {x : V} {a : Addr} {xs : List V} (s : SqL K H a xs) (fx : flatV x = true) (fs : xs.all flatV = true) (h : Q (.bl (inV x xs)) H) : rIn K false x (.ref a) H Q := ⟨a, xs, rfl, .inl s, fx, fs, h⟩
theorem w_ninL {x : V} {a : Addr} {xs : List V} (s : SqL K H a xs) (fx : flatV x = true) (fs : xs.all flatV = true) (h : Q (.bl (!inV x xs)) H) : rIn K true x (.ref a) H Q := ⟨a, xs, rfl, .inl s, fx, fs, h⟩
theorem inV_two (z a b : Str) : inV (.str z) [.str a, .str b] = (decide (z = a) || decide (z = b)) := by
  have h1 : ∀ u : Str, (u == z) = decide (z = u) := fun u => by
    by_cases h : z = u
    · subst h
      simp
    · rw [decide_eq_false h]
      exact beq_eq_false_iff_ne.mpr fun q => h q.symm
  simp only [inV, List.any_cons, List.any_nil, eqV, h1, Bool.or_false]
theorem w_all {a : Addr} {bs : List Bool} (s : SqL K H a (bs.map V.bl)) (h : Q (.bl (bs.all id)) H) : rAll K [.ref a] H Q := ⟨a, bs, rfl, s, h⟩
theorem w_any {a : Addr} {bs : List Bool} (s : SqL K H a (bs.map V.bl)) (h : Q (.bl (bs.any id)) H) : rAny K [.ref a] H Q := ⟨a, bs, rfl, s, h⟩
theorem w_sum {a : Addr} {ns : List Int} (s : SqL K H a (ns.map V.int)) (h : Q (.int ns.sum) H) : rSum K [.ref a] H Q := ⟨a, ns, rfl, s, h⟩
theorem walk_zipT {a b : Addr} {xs ys : List V} {m : Nat} (hm : m = min xs.length ys.length) : Walk (RZ.ItzT K a b) m (fun H => SqT K H a xs ∧ SqT K H b ys) (YPair (fun i => xs[i]?) (fun i => ys[i]?)) := by
  subst hm
  refine ⟨fun i _ hi q => ?_, fun _ q => ⟨xs, ys, q.1, q.2, by omega⟩, fun i H v H' _ q y => ?_⟩
  · have h1 : i < xs.length := by omega
    have h2 : i < ys.length := by omega
    exact ⟨xs, ys, xs[i], ys[i], q.1, q.2, by simp [h1], by simp [h2]⟩
  · obtain ⟨T, x, z, h1, h2, h3, h4, h5⟩ := y
    exact ⟨T, x, z, h1, h2, h3, h4 xs q.1, h5 ys q.2⟩
theorem w_zipA {ta : TA} {R : It → Hp → Prop} (h : ta σ H fun vs H1 => ∃ a b xs ys, vs = [.ref a, .ref b] ∧ ((SqL K H1 a xs ∧ SqL K H1 b ys ∧ R (Itz K a b) H1) ∨ (SqT K H1 a xs ∧ SqT K H1 b ys ∧ R (RZ.ItzT K a b) H1))) : RZ.iZipA K ta σ H R := h
end
theorem shaped_mem {ds : List PyData} {d : PyData} (h : SeqAt.shaped (.tuple ds) = true) (hd : d ∈ ds) : SeqAt.shaped d = true := by
  have h1 : ∀ l : List PyData, PyData.canLayAll0 l = true → d ∈ l → d.canLay0 = true := by
    intro l
    induction l with
    | nil => intro _ h; cases h
    | cons x r ih =>
      intro h m
      simp only [PyData.canLayAll0, Bool.and_eq_true] at h
      rcases List.mem_cons.mp m with rfl | m
      · exact h.1
      · exact ih h.2 m
  have h2 : ∀ l : List PyData, d ∈ l → d.depth ≤ PyData.depthAll l := by
    intro l
    induction l with
    | nil => intro h; cases h
    | cons x r ih =>
      intro m
      simp only [PyData.depthAll]
      rcases List.mem_cons.mp m with rfl | m
      · omega
      · have := ih m
        omega
  have a := SeqAt.canLay_of_shaped h
  have b := SeqAt.depth_of_shaped h
  simp only [PyData.canLay0] at a
  simp only [PyData.depth] at b
  have c := h2 ds hd
  have e : decide (d.depth ≤ 64) = true := decide_eq_true (by omega)
  simp only [SeqAt.shaped, h1 ds a hd, e, Bool.and_self]
/-- a def without any promise -/
theorem Ok.bot {P : Program} {w : World} {K : PySem.W.Frag} {mg : Str → Option Value} {base : Heap} {x : Str} {st : Stmt} {ps : List Str} {k : Nat} (G : mg x = some (.ref (He.ga K x))) (F : FnAt K x st) (b : BindAll x st ps) : Ok P w K mg base k x ps (fun _ _ _ _ => False) := by
  obtain ⟨fd, F⟩ := F
  have e : fdAt K (He.ga K x) = some fd := by
    obtain ⟨oc, od, dV, kV, doc, pm, an, cdv, ct, osl, rfl, lk, _⟩ := F.ex
    unfold fdAt
    rw [lk]
  exact ⟨G, F.kp, fd, e, F.bindsA b, ⟨fun _ _ _ _ h => h.elim, fun _ _ _ _ _ _ _ _ _ _ _ _ _ h => h.elim⟩⟩
end RG
/-! ### data of a fit size -/
namespace RG
open PySem PySem.Spec PyProof.Rows L2
mutual
/-- no list or tuple within is longer than a thousand -/
def narrow : PyData → Bool
  | .tuple xs => decide (xs.length ≤ 1000) && narrowAll xs
  | .list xs => decide (xs.length ≤ 1000) && narrowAll xs
  | .none => true
  | .bool _ => true
  | .int _ => true
  | .str _ => true
  | .dict _ => true
def narrowAll : List PyData → Bool
  | [] => true
  | x :: xs => narrow x && narrowAll xs
end
theorem narrowAll_mem : ∀ {l : List PyData} {d : PyData}, narrowAll l = true → d ∈ l → narrow d = true
  | [], _, _, h => by cases h
  | x :: r, d, h, m => by
    simp only [narrowAll, Bool.and_eq_true] at h
    rcases List.mem_cons.mp m with rfl | m
    · exact h.1
    · exact narrowAll_mem h.2 m
def okD (d : PyData) : Bool := SeqAt.shaped d && narrow d
theorem okD_sh {d : PyData} (h : okD d = true) : SeqAt.shaped d = true := (Bool.and_eq_true_iff.mp h).1
theorem okD_mem {ds : List PyData} {d : PyData} (h : okD (.tuple ds) = true) (m : d ∈ ds) : okD d = true := by
  obtain ⟨a, b⟩ := Bool.and_eq_true_iff.mp h
  simp only [narrow, Bool.and_eq_true] at b
  exact Bool.and_eq_true_iff.mpr ⟨shaped_mem a m, narrowAll_mem b.2 m⟩
theorem okD_len {ds : List PyData} (h : okD (.tuple ds) = true) : ds.length ≤ 1000 := by
  obtain ⟨a, b⟩ := Bool.and_eq_true_iff.mp h
  simp only [narrow, Bool.and_eq_true, decide_eq_true_eq] at b
  exact b.1
theorem not_tup {d : PyData} (h : ¬ isTupD d = true) : isTupD d = false := by simpa using h
theorem is_tup {d : PyData} (h : isTupD d = true) : ∃ ds, d = .tuple ds := by
  cases d <;> first | exact ⟨_, rfl⟩ | cases h
theorem is_str {d : PyData} (h : isStrD d = true) : ∃ z, d = .str z := by
  cases d <;> first | exact ⟨_, rfl⟩ | cases h
end RG
/-! ### truths joined -/
namespace RG
open PySem PySem.Spec PyProof.Rows L2
/-- it tells b and leaves what stood -/
def EvB (te : TE) (σ : L2.St) (H : Hp) (b : Bool) : Prop := ∀ Q : VK, (∀ H', Same H H' → Q (.bl b) H') → te σ H Q
def EvT (tt : TT) (σ : L2.St) (H : Hp) (b : Bool) : Prop := ∀ Q : Bool → Hp → Prop, (∀ H', Same H H' → Q b H') → tt σ H Q
section
variable {σ : L2.St} {H : Hp} {ta tb te : TE} {tA tC' : TT} {a b : Bool}
theorem evb_use {Q : VK} (h : EvB te σ H b) (k : ∀ H', Same H H' → Q (.bl b) H') : te σ H Q := h Q k
theorem evt_use {Q : Bool → Hp → Prop} (h : EvT tA σ H b) (k : ∀ H', Same H H' → Q b H') : tA σ H Q := h Q k
theorem evb_and (h1 : EvB ta σ H a) (h2 : a = true → ∀ H', Same H H' → EvB tb σ H' b) : EvB (tAndV ta tb) σ H (a && b) := fun Q q => h1 _ fun H1 s1 => ⟨a, rfl, by
  cases a with
  | true => exact if_t rfl (h2 rfl H1 s1 Q fun H2 s2 => q H2 (s1.trans s2))
  | false => exact if_f rfl (q H1 s1)⟩
theorem evb_or (h1 : EvB ta σ H a) (h2 : a = false → ∀ H', Same H H' → EvB tb σ H' b) : EvB (tOrV ta tb) σ H (a || b) := fun Q q => h1 _ fun H1 s1 => ⟨a, rfl, by
  cases a with
  | true => exact if_t rfl (q H1 s1)
  | false => exact if_f rfl (h2 rfl H1 s1 Q fun H2 s2 => q H2 (s1.trans s2))⟩
theorem evb_not (h1 : EvB ta σ H a) : EvB (tNotV ta) σ H (!a) := fun Q q => h1 _ fun H1 s1 => ⟨a, rfl, q H1 s1⟩
theorem evt_B (h1 : EvB ta σ H a) : EvT (tB ta) σ H a := fun Q q => h1 _ fun H1 s1 => ⟨a, rfl, q H1 s1⟩
theorem evt_test (h1 : EvB ta σ H a) : EvT (tTest ta) σ H a := fun Q q => h1 _ fun H1 s1 => ⟨a, rfl, q H1 s1⟩
theorem evt_and (h1 : EvT tA σ H a) (h2 : a = true → ∀ H', Same H H' → EvT tC' σ H' b) : EvT (tAnd tA tC') σ H (a && b) := fun Q q => h1 _ fun H1 s1 => by
  cases a with
  | true => exact if_t rfl (h2 rfl H1 s1 Q fun H2 s2 => q H2 (s1.trans s2))
  | false => exact if_f rfl (q H1 s1)
theorem evt_or (h1 : EvT tA σ H a) (h2 : a = false → ∀ H', Same H H' → EvT tC' σ H' b) : EvT (tOr tA tC') σ H (a || b) := fun Q q => h1 _ fun H1 s1 => by
  cases a with
  | true => exact if_t rfl (q H1 s1)
  | false => exact if_f rfl (h2 rfl H1 s1 Q fun H2 s2 => q H2 (s1.trans s2))
theorem evt_not (h1 : EvT tA σ H a) : EvT (tNot tA) σ H (!a) := fun Q q => h1 _ fun H1 s1 => q H1 s1
end
end RG
/-! ### comprehensions of data -/
namespace RG
open PySem PySem.Spec PyProof.Rows L2
mutual
/-- a change of a list does not bear on data without lists -/
theorem dp_mut {K : PySem.W.Frag} {H : Hp} {p : Addr} {o : HO} {ys : List V} (hp : H p = some (.lst ys)) : ∀ {v : V} {d : PyData}, imm d = true → Dp K H v d → Dp K (upd H p o) v d
  | _, _, _, .non => .non
  | _, _, _, .bl b => .bl b
  | _, _, _, .int i => .int i
  | _, _, _, .str x => .str x
  | _, _, i, .lst h a => by simp [imm] at i
  | _, _, i, .tup h a => .tup (tup_mut hp h) (dpAll_mut hp (by simpa [imm] using i) a)
theorem dpAll_mut {K : PySem.W.Frag} {H : Hp} {p : Addr} {o : HO} {ys : List V} (hp : H p = some (.lst ys)) : ∀ {vs : List V} {ds : List PyData}, immAll ds = true → DpAll K H vs ds → DpAll K (upd H p o) vs ds
  | _, _, _, .nil => .nil
  | _, _, i, .cons a b => by
    simp [immAll] at i
    exact .cons (dp_mut hp i.1 a) (dpAll_mut hp i.2 b)
end
theorem immAll_app : ∀ {a b : List PyData}, immAll (a ++ b) = (immAll a && immAll b)
  | [], b => by simp [immAll]
  | x :: a, b => by
    simp only [List.cons_append, immAll, immAll_app (a := a), Bool.and_assoc]
theorem immAll_mem : ∀ {l : List PyData}, (∀ d ∈ l, imm d = true) → immAll l = true
  | [], _ => rfl
  | x :: l, h => by
    have h2 : immAll l = true := immAll_mem fun d hd => h d (List.mem_cons_of_mem _ hd)
    simp only [immAll, h x (by simp), h2, Bool.and_self]
theorem immAll_get : ∀ {l : List PyData} {d : PyData}, immAll l = true → d ∈ l → imm d = true
  | [], _, _, h => by cases h
  | x :: l, d, h, m => by
    simp only [immAll, Bool.and_eq_true] at h
    rcases List.mem_cons.mp m with rfl | m
    · exact h.1
    · exact immAll_get h.2 m
def IvD (K : PySem.W.Frag) (H : Hp) (l : List (List PyData)) (D : Addr) (i : Nat) (acc : List V) (H' : Hp) : Prop := Same H H' ∧ DpAll K H' acc (l.take i).flatten
section
variable {K : PySem.W.Frag} {σ : L2.St} {H : Hp} {te : TE} {Q : VK} {g : TG} {tt : TT} {vs : List Nat} {J : It} {n : Nat} {G : Hp → Prop} {Y : Nat → Hp → V → Hp → Prop}
theorem take_flatD {α : Type} {l : List (List α)} {i : Nat} {x : List α} (h : l[i]? = some x) : (l.take (i + 1)).flatten = (l.take i).flatten ++ x := by
  rw [List.take_add_one, h]
  simp
theorem immAll_take {l : List (List PyData)} (h : immAll l.flatten = true) (i : Nat) : immAll (l.take i).flatten = true := by
  have e : l.flatten = (l.take i).flatten ++ (l.drop i).flatten := by
    rw [← List.flatten_append, List.take_append_drop]
  rw [e, immAll_app, Bool.and_eq_true] at h
  exact h.1
theorem lc_data (w : Walk J n G Y) (hn : n ≤ 50000) (l : List (List PyData)) (hl : l.length = n) (hG : ∀ H', Same H H' → G H')
    (hs : ∀ D i acc x H' H'', H D = none → i < n → acc.length ≤ i → H' D = some (.lst acc) → IvD K H l D i acc H' → Y i H' x H'' → g x (wipe σ vs) H'' fun σ2 H2 => wipe σ2 vs = wipe σ vs ∧ tt σ2 H2 fun b H3 =>
      if b = true then te σ2 H3 fun y H4 => LcNx (IvD K H l D) D i y H4 else LcSk (IvD K H l D) D i H3)
    (hd : ∀ D acc H', H D = none → Same H H' → H' D = some (.lst acc) → DpAll K H' acc l.flatten → Q (.ref D) H') : LcGoal J g tt te vs σ H Q := by
  refine lc_go w hn (IvD K H l) (fun D hD => ⟨Same.new hD, .nil⟩) (fun D i acc H' hD _ iv => hG H' iv.1) hs fun D acc H' hD hH' _ iv => hd D acc H' hD iv.1 hH' ?_
  have h := iv.2
  rw [List.take_of_length_le (by omega)] at h
  exact h
theorem lcd_nx {l : List (List PyData)} {A : Addr} {i : Nat} {y : V} {d : PyData} {acc : List V} {H' H4 : Hp} (hD : H A = none) (hi : i < 90000) (hl : acc.length ≤ i) (h : H' A = some (.lst acc)) (iv : IvD K H l A i acc H') (s : Same H' H4) (hy : Dp K H4 y d) (im : immAll l.flatten = true) (e : l[i]? = some [d]) : LcNx (IvD K H l A) A i y H4 := by
  have hi1 := immAll_take im (i + 1)
  rw [take_flatD e] at hi1
  refine lc_nx hi hl (s _ _ h) ⟨fun b o q => ?_, ?_⟩
  · rw [upd_ne (ne_of_none q hD)]
    exact s _ _ (iv.1 _ _ q)
  · rw [take_flatD e]
    exact dpAll_mut (s _ _ h) hi1 (dpAll_app (dps_s s iv.2) (.cons hy .nil))
theorem lcd_sk {l : List (List PyData)} {A : Addr} {i : Nat} {acc : List V} {H' H4 : Hp} (hl : acc.length ≤ i) (h : H' A = some (.lst acc)) (iv : IvD K H l A i acc H') (s : Same H' H4) (e : l[i]? = some []) : LcSk (IvD K H l A) A i H4 :=
  lc_sk hl (s _ _ h) ⟨iv.1.trans s, by
    rw [take_flatD e, List.append_nil]
    exact dps_s s iv.2⟩
theorem flat_oneD {α β : Type} (f : α → β) : ∀ l : List α, (l.map fun x => [f x]).flatten = l.map f
  | [] => rfl
  | x :: r => by
    simp only [List.map_cons, List.flatten_cons, flat_oneD f r]
    rfl
theorem flat_ifD {α β : Type} (p : α → Bool) (f : α → β) : ∀ l : List α, (l.map fun x => if p x = true then [f x] else []).flatten = (l.filter p).map f
  | [] => rfl
  | x :: r => by
    simp only [List.map_cons, List.flatten_cons, flat_ifD p f r, List.filter_cons]
    split <;> rfl
/-- with dice: what the turns gave is some data that R tells of -/
def IvR (K : PySem.W.Frag) (a : Addr) (H : Hp) (R : Nat → List PyData → Prop) (D : Addr) (i : Nat) (acc : List V) (H' : Hp) : Prop := But a H H' ∧ D ≠ a ∧ ∃ ds, DpAll K H' acc ds ∧ immAll ds = true ∧ R i ds
theorem lc_dice {a : Addr} (w : Walk J n G Y) (hn : n ≤ 50000) (R : Nat → List PyData → Prop) (hd0 : Dice H a) (h0 : R 0 []) (hG : ∀ H', But a H H' → G H')
    (hs : ∀ D i acc x H' H'', H D = none → i < n → acc.length ≤ i → H' D = some (.lst acc) → IvR K a H R D i acc H' → Y i H' x H'' → g x (wipe σ vs) H'' fun σ2 H2 => wipe σ2 vs = wipe σ vs ∧ tt σ2 H2 fun b H3 =>
      if b = true then te σ2 H3 fun y H4 => LcNx (IvR K a H R D) D i y H4 else LcSk (IvR K a H R D) D i H3)
    (hd : ∀ D acc ds H', H D = none → But a H H' → D ≠ a → H' D = some (.lst acc) → DpAll K H' acc ds → immAll ds = true → R n ds → Q (.ref D) H') : LcGoal J g tt te vs σ H Q := by
  refine lc_go w hn (IvR K a H R) (fun D hD => ⟨But.of hd0 (Same.new hD), hd0.ne hD, [], .nil, rfl, h0⟩) (fun D i acc H' hD _ iv => hG H' iv.1) hs fun D acc H' hD hH' _ iv => ?_
  obtain ⟨b, nD, ds, h1, h2, h3⟩ := iv
  exact hd D acc ds H' hD b nD hH' h1 h2 h3
theorem lcr_nx {a : Addr} {R : Nat → List PyData → Prop} {A : Addr} {i : Nat} {y : V} {d : PyData} {ds : List PyData} {acc : List V} {H' H4 : Hp} (hD : H A = none) (hi : i < 90000) (hl : acc.length ≤ i) (h : H' A = some (.lst acc)) (b : But a H H') (nA : A ≠ a) (hds : DpAll K H' acc ds) (im : immAll ds = true)
    (s : But a H' H4) (hy : Dp K H4 y d) (imd : imm d = true) (r : R (i + 1) (ds ++ [d])) : LcNx (IvR K a H R A) A i y H4 := by
  have h4 := s.kp _ _ h nA
  have i2 : immAll (ds ++ [d]) = true := by
    rw [immAll_app, im]
    simp [immAll, imd]
  exact lc_nx hi hl h4 ⟨(b.trans s).mut hD nA, nA, ds ++ [d], dpAll_mut h4 i2 (dpAll_app (s.dpAll im hds) (.cons hy .nil)), i2, r⟩
theorem lcr_sk {a : Addr} {R : Nat → List PyData → Prop} {A : Addr} {i : Nat} {ds : List PyData} {acc : List V} {H' H4 : Hp} (hl : acc.length ≤ i) (h : H' A = some (.lst acc)) (b : But a H H') (nA : A ≠ a) (hds : DpAll K H' acc ds) (im : immAll ds = true)
    (s : But a H' H4) (r : R (i + 1) ds) : LcSk (IvR K a H R A) A i H4 := lc_sk hl (s.kp _ _ h nA) ⟨b.trans s, nA, ds, s.dpAll im hds, im, r⟩
end
end RG
namespace RG
open PySem PySem.Spec PyProof.Rows L2
theorem hu65 {k : Nat} {A : Around} (hr : Room k A) : A.units + 65 < cLine := by
  have := hr.un
  omega
end RG
/-! ### enumerate(t), t a tuple -/
namespace RG
open PySem PySem.Spec PyProof.Rows L2
set_option maxHeartbeats 1000000 in
theorem enum_new_tup (tp : Addr) (vals : Array Value) :
    Meets (Builtin.«enumerate.__new__» ⟨[.type "enumerate", .ref tp], []⟩) (fun _ R s => s.heap.IsTuple tp vals ∧
      R (.ok (.ret (.ref (s.heap.push { cls := .type "tuple_iterator", data := .fields #[.ref tp, .int 0 0] }).objs.size)))
        { s with heap := (s.heap.push { cls := .type "tuple_iterator", data := .fields #[.ref tp, .int 0 0] }).push { cls := .type "enumerate", data := .fields #[.none, .bool false, .ref s.heap.objs.size, rawInt 0, .none, .none] } }) :=
  .of_wp fun pg wd ar R s hh => by
    obtain ⟨hp, g, d, tk, os⟩ := s
    obtain ⟨ht, hR⟩ := hh
    have hsb := sub_enumerate
    have go : ∀ {A' : Around} {E : Value → Shared → Prop} {Q : Value → Shared → Prop}, Q (.ref hp.objs.size) ⟨hp.push { cls := .type "tuple_iterator", data := .fields #[.ref tp, .int 0 0] }, g, d, tk, os⟩ → wpAny (model pg wd) A' (pyIter (.ref tp)) Q E ⟨hp, g, d, tk, os⟩ :=
      fun k => wpAny_pyIter_tuple (s := ⟨hp, g, d, tk, os⟩) ht k
    wp_walk using go
    refine wpAny_stack_any fun st => wpAny_pure ?_
    split
    · rename_i c _ _ _ _ _
      cases (c == Value.type "enumerate")
      · wp_walk using go
        exact ⟨_, rfl, hR⟩
      · wp_walk using go
        exact ⟨_, rfl, hR⟩
    · wp_walk using go
      exact ⟨_, rfl, hR⟩
theorem enum_call_tup {pg : Program} {wd : World} {ar : Around} {E : Value → Shared → Prop} {s : Shared} {tp : Addr} {vals : Array Value} {Q : Value → Shared → Prop} (ht : s.heap.IsTuple tp vals)
    (hq : ∀ h', IsEnum h' (s.heap.objs.size + 1) s.heap.objs.size 0 .none → h'.IsTupleIter s.heap.objs.size tp 0 →
      (∀ b o, s.heap.get? b = some o → h'.get? b = some o) → Q (.ref (s.heap.objs.size + 1)) { s with heap := h' }) :
    wpAny (model pg wd) ar (call (.type "enumerate") [.ref tp]) Q E s := by
  refine callType_new F.called_enumerate (by decide) (F.typeCall_enumerate_1 _) (F.newCall_enumerate_1 _) (fun ob => F.args_object_init_2 ob _) F.entry_enumerate_new (enum_new_tup tp vals) ⟨ht, ?_⟩
  have sz1 : (s.heap.push { cls := .type "tuple_iterator", data := .fields #[.ref tp, .int 0 0] }).objs.size = s.heap.objs.size + 1 := Heap.size_push ..
  show _ ∧ _
  rw [sz1]
  have en : IsEnum ((s.heap.push { cls := .type "tuple_iterator", data := .fields #[.ref tp, .int 0 0] }).push { cls := .type "enumerate", data := .fields #[.none, .bool false, .ref s.heap.objs.size, rawInt 0, .none, .none] }) (s.heap.objs.size + 1) s.heap.objs.size 0 .none := by
    have z := Heap.get?_push_size (s.heap.push { cls := .type "tuple_iterator", data := .fields #[.ref tp, .int 0 0] }) (o := { cls := .type "enumerate", data := .fields #[.none, .bool false, .ref s.heap.objs.size, rawInt 0, .none, .none] }) rfl
    rw [sz1] at z
    exact z
  exact ⟨⟨_, en, rfl⟩, hq _ en ⟨_, Heap.get?_push_of_some _ (Heap.get?_push_size _ rfl), rfl, rfl⟩ fun b o x => Heap.get?_push_of_some _ (Heap.get?_push_of_some _ x)⟩
/-- the tuple at a, each item in a new pair with its place -/
def IteT (K : PySem.W.Frag) (a : Addr) : It where
  go := fun i H => ∃ (xs : List V) (x : V), SqT K H a xs ∧ xs[i]? = some x
  yld := fun i H v H' => ∃ T x, v = .ref T ∧ H T = none ∧ H' = upd H T (.tup [.int (i : Nat), x]) ∧ ∀ xs, SqT K H a xs → xs[i]? = some x
  stop := fun i H => ∃ xs : List V, SqT K H a xs ∧ xs.length = i
theorem isTuple_of {h : Heap} {a : Addr} {its : Array Value} (p : IsTup h a its) : h.IsTuple a its := by
  obtain ⟨o, h1, h2, n, h3⟩ := p
  exact ⟨o, h1, h2, n, h3⟩
theorem turn_enumT {P : Program} {w : World} {K : PySem.W.Frag} {elts : List Expr} {kk : Nat} {tpos : Pos} (a en it : Addr) :
    Turn P w K (.Tuple elts kk tpos) (IteT K a) [en, it] en (fun i h => (∃ old, IsEnum h en it ((i : Nat) : Int) old) ∧ h.IsTupleIter it a i ∧ en ≠ it) where
  mem := by simp
  obj := fun i h st b hb => by
    obtain ⟨⟨old, h1⟩, ⟨o, ho, _, hd⟩, _⟩ := st
    rcases (by simpa using hb : b = en ∨ b = it) with z | z
    · rw [z]
      exact ⟨_, h1, fun v q => nomatch q⟩
    · rw [z]
      exact ⟨o, ho, fun v q => by rw [hd] at q; cases q⟩
  keep := fun i h h' st k => by
    obtain ⟨⟨old, h1⟩, h2, h3⟩ := st
    exact ⟨⟨old, k en (by simp) _ h1⟩, h2.at fun o q => k it (by simp) o q, h3⟩
  item := by
    intro X eP ew eK hcalm i pins s σ H E I fpk st hgo
    subst eP ew eK
    obtain ⟨⟨old, h1⟩, h2, hne⟩ := st
    obtain ⟨xs, x, hq, hx⟩ := hgo
    obtain ⟨its, rv, p, hz⟩ := I.tuple hq
    obtain ⟨u, hu, ru⟩ := rv.get hx
    have l1 : en < s.heap.objs.size := Heap.lt_size h1
    have l2 : it < s.heap.objs.size := by
      obtain ⟨_, q, _⟩ := h2
      exact Heap.lt_size q
    have pt := isTuple_of p
    have nai : a ≠ it := fun z => by
      obtain ⟨o1, q1, q2, _⟩ := h2
      obtain ⟨o2, r1, r2, _⟩ := pt
      rw [z, q1] at r1
      cases r1
      rw [q2] at r2
      exact absurd r2 (by decide)
    have nae : a ≠ en := fun z => by
      obtain ⟨o2, r1, r2, _⟩ := pt
      rw [z, h1] at r1
      cases r1
      exact absurd (show Value.type "enumerate" = Value.type "tuple" from r2) (by decide)
    have dr := Draws.tuple (prog := X.prog) (w := X.w) (A := X.A.in1) (show X.A.in1.handled = none from I.ok.hd hcalm) it a nai its.toArray
    have hlen : i < its.toArray.size := by
      have h3 := (List.getElem?_eq_some_iff.mp hu).1
      simpa using h3
    refine wpAny_pyNext_enum_itemD dr h1 ⟨h2, pt⟩ hlen hne (by simp; exact ⟨hne, nae.symm⟩) fun y h' tk py ho st' hT hsz hk => ?_
    have ey : y = u := by
      have e2 : its.toArray[i]? = some u := by simpa using hu
      exact Option.some.inj (py.symm.trans e2)
    subst ey
    refine ⟨_, rfl, wpAny_letOwnedTupleGo_enum (s := { s with heap := h', toks := tk + 1 }) ho fun h'' he' sb => ?_⟩
    have hT2 : h''.get? s.heap.objs.size = some { cls := .type "tuple", data := .seq #[.int i tk, y] } := (sb.2 _ (Nat.ne_of_gt l1)).trans hT
    have nw : ObjOk X.prog X.w (upd H s.heap.objs.size (.tup [.int (i : Nat), x])) h'' s.heap.objs.size (.tup [.int (i : Nat), x]) :=
      ⟨by show 2 ≤ sizeLine; decide, [.int i tk, y], .cons ⟨_, rfl⟩ (.cons ru .nil), ⟨_, hT2, rfl, _, rfl⟩⟩
    have J1 : Inv X pins σ (upd H s.heap.objs.size (.tup [.int (i : Nat), x])) { s with heap := h'', toks := tk + 1 } :=
      I.turnedNew (ch := [en, it]) (fun b ob hb q => (sb.2 b (fun z => hb (by simp [z]))).trans (hk b ob (fun z => hb (by simp [z])) (fun z => hb (by simp [z])) q)) fpk (Nat.le_refl _) nw
    refine ⟨.ref s.heap.objs.size, _, J1, rfl, ⟨_, x, rfl, I.hok.fresh (Nat.le_refl _), rfl, fun ys hy => by rw [I.tuple_inj hy hq]; exact hx⟩, ⟨⟨y, ?_⟩, st'.1.at fun o q => (sb.2 it (Ne.symm hne)).trans q, hne⟩, fun b hb => ?_⟩
    · have e1 : ((i + 1 : Nat) : Int) = (i : Int) + 1 := by omega
      rw [e1]
      exact he'
    · have hb' : b < s.heap.objs.size := by
        rcases (by simpa using hb : b = en ∨ b = it) with z | z
        · rw [z]
          exact l1
        · rw [z]
          exact l2
      rw [upd_ne (Nat.ne_of_lt hb')]
      exact (fpk b hb).1
  done := by
    intro X eP ew eK hcalm i pins s σ H E I fpk st hst
    subst eP ew eK
    obtain ⟨⟨old, h1⟩, h2, hne⟩ := st
    obtain ⟨xs, hq, hx⟩ := hst
    obtain ⟨its, rv, p, hz⟩ := I.tuple hq
    obtain ⟨f0, f1, f2, f3, f4, f5⟩ := fpk it (by simp)
    have hlen := rv.length
    have pt := isTuple_of p
    have nai : a ≠ it := fun z => by
      obtain ⟨o1, q1, q2, _⟩ := h2
      obtain ⟨o2, r1, r2, _⟩ := pt
      rw [z, q1] at r1
      cases r1
      rw [q2] at r2
      exact absurd r2 (by decide)
    have dr := Draws.tuple (prog := X.prog) (w := X.w) (A := X.A.in1) (show X.A.in1.handled = none from I.ok.hd hcalm) it a nai its.toArray
    have ei : i = its.toArray.size := by
      simp
      omega
    rw [ei] at h2
    exact wpAny_pyNext_enum_endD dr h1 ⟨h2, pt⟩ fun h' eb => ⟨rfl, I.turned (t' := s.toks) (fun b o hb q => eb b o hb q) f0 f1 f3 f4 f5⟩
  self := fun A i s Q E st h => by
    obtain ⟨⟨_, h1⟩, _⟩ := st
    exact wpAny_pyIter_enum h1 h
def iEnumT (K : PySem.W.Frag) (ta : TA) : TI := fun σ H R => ta σ H fun vs H1 => ∃ a xs, vs = [.ref a] ∧ SqT K H1 a xs ∧ R (IteT K a) H1
theorem pi_enumT {X : Cx} {e : Expr} {ta : TA} {p pos tpos : Pos} {elts : List Expr} {kk : Nat} (hg : Gl X "enumerate") (hm : X.mg "enumerate" = none) (ha : PA X [e] ta) (hs : starEach [e] X.env = [(false, eval e X.env)] := by rfl) :
    PI X (.Tuple elts kk tpos) (.Call (.Name "enumerate" p) [e] [] pos) (iEnumT X.K ta) := by
  refine ⟨fun pins s σ H R I hh => ?_⟩
  refine Call_ (ld_blt I hg hm boot_enumerate (PyProof.Rows.callWith_type1 (thn (ha.run pos pins s σ H _ I hh) fun us s1 ⟨vs, H1, I1, r1, q1⟩ => ?_) hs rfl))
  obtain ⟨a, xs, ex, hq, q⟩ := q1
  subst ex
  cases r1 with
  | cons r rr =>
    cases rr
    cases r
    obtain ⟨its, rv, p', hz⟩ := I1.tuple hq
    refine enum_call_tup (isTuple_of p') fun h' he hit hk => wpAny_pyIter_enum he ?_
    have I2 : Inv X pins σ H1 { s1 with heap := h' } := I1.kept (t' := s1.toks) hk
    refine ⟨s1.heap.objs.size + 1, [s1.heap.objs.size + 1, s1.heap.objs.size], _, _, H1, rfl, I2, turn_enumT a _ _, ⟨⟨.none, he⟩, hit, Nat.succ_ne_self _⟩, fun b hb => ?_, q⟩
    have hle : s1.heap.objs.size ≤ b := by
      rcases (by simpa using hb : b = s1.heap.objs.size + 1 ∨ b = s1.heap.objs.size) with z | z
      · rw [z]
        omega
      · rw [z]
        exact Nat.le_refl _
    exact I1.fpOk hle (I1.hok.fresh hle)
theorem walk_enumT {K : PySem.W.Frag} {a : Addr} {xs : List V} : Walk (IteT K a) xs.length (fun H => SqT K H a xs) (YPair (fun i => some (.int (i : Nat))) (fun i => xs[i]?)) := by
  refine ⟨fun i _ hi q => ⟨xs, xs[i], q, by simp [hi]⟩, fun _ q => ⟨xs, q, rfl⟩, fun i H v H' _ q y => ?_⟩
  obtain ⟨T, x, h1, h2, h3, h4⟩ := y
  exact ⟨T, .int (i : Nat), x, h1, h2, h3, rfl, h4 xs q⟩
theorem w_enumT {K : PySem.W.Frag} {σ : L2.St} {H : Hp} {ta : TA} {R : It → Hp → Prop} (h : ta σ H fun vs H1 => ∃ a xs, vs = [.ref a] ∧ SqT K H1 a xs ∧ R (IteT K a) H1) : iEnumT K ta σ H R := h
end RG
/-! ### slices and sums of tuples that are data -/
namespace RG
open PySem PySem.Spec PyProof.Rows L2
section
variable {K : PySem.W.Frag} {H : Hp} {Q : VK}
theorem dpAll_take : ∀ {vs : List V} {ds : List PyData} (n : Nat), DpAll K H vs ds → DpAll K H (vs.take n) (ds.take n)
  | _, _, 0, _ => by simpa using (DpAll.nil : DpAll K H [] [])
  | _, _, _ + 1, .nil => .nil
  | _, _, n + 1, .cons a b => .cons a (dpAll_take n b)
theorem dpAll_drop : ∀ {vs : List V} {ds : List PyData} (n : Nat), DpAll K H vs ds → DpAll K H (vs.drop n) (ds.drop n)
  | _, _, 0, h => h
  | _, _, _ + 1, .nil => .nil
  | _, _, n + 1, .cons _ b => dpAll_drop n b
/-- t[k:] -/
theorem w_slFrom {v : V} {ds : List PyData} {k : Nat} (hd : Dp K H v (.tuple ds)) (h : ∀ u H', Same H H' → Dp K H' u (.tuple (ds.drop k)) → Q u H') : rSlA K v (some (k : Nat)) none H Q := by
  obtain ⟨a, xs, rfl, hs, hx⟩ := dp_tuple hd
  have hl := dpAll_len hx
  have e1 : HT.sIx xs.length 0 (some ((k : Nat) : Int)) = min k xs.length := HT.sIx_nat _ 0 k
  have e2 : HT.sIx xs.length xs.length none = xs.length := HT.sIx_none _ _
  refine ⟨a, xs, rfl, hs, fun z => ?_, fun _ p np => ?_⟩
  · rw [e1] at z
    refine h _ H (Same.refl _) (.tup hs ?_)
    rcases Nat.eq_zero_or_pos k with k0 | k0
    · subst k0
      exact hx
    · have : xs = [] := List.eq_nil_of_length_eq_zero (by omega)
      subst this
      cases hx
      simpa using (DpAll.nil : DpAll K H [] [])
  · refine h _ _ (Same.new np) (.tup (tupOf upd_same) ?_)
    have e3 : cutV xs (some ((k : Nat) : Int)) none = xs.drop k := by
      unfold cutV
      rw [e1, e2]
      rcases Nat.le_total k xs.length with hk | hk
      · rw [Nat.min_eq_left hk]
        exact List.take_of_length_le (by simp)
      · rw [Nat.min_eq_right hk, List.drop_of_length_le hk, List.drop_of_length_le (Nat.le_refl _)]
        simp
    rw [e3]
    exact dps_s (Same.new np) (dpAll_drop k hx)
/-- t[:k] -/
theorem w_slTo {v : V} {ds : List PyData} {k : Nat} (hd : Dp K H v (.tuple ds)) (h : ∀ u H', Same H H' → Dp K H' u (.tuple (ds.take k)) → Q u H') : rSlA K v none (some (k : Nat)) H Q := by
  obtain ⟨a, xs, rfl, hs, hx⟩ := dp_tuple hd
  have hl := dpAll_len hx
  have e1 : HT.sIx xs.length 0 none = 0 := HT.sIx_none _ _
  have e2 : HT.sIx xs.length xs.length (some ((k : Nat) : Int)) = min k xs.length := HT.sIx_nat _ _ k
  refine ⟨a, xs, rfl, hs, fun z => ?_, fun _ p np => ?_⟩
  · rw [e2] at z
    refine h _ H (Same.refl _) (.tup hs ?_)
    rw [List.take_of_length_le (by omega)]
    exact hx
  · refine h _ _ (Same.new np) (.tup (tupOf upd_same) ?_)
    have e3 : cutV xs none (some ((k : Nat) : Int)) = xs.take k := by
      unfold cutV
      rw [e1, e2]
      show xs.take (min k xs.length - 0) = xs.take k
      rw [Nat.sub_zero, List.take_eq_take_iff]
      omega
    rw [e3]
    exact dps_s (Same.new np) (dpAll_take k hx)
/-- t + u -/
theorem w_catD {x y : V} {ds es : List PyData} (hx : Dp K H x (.tuple ds)) (hy : Dp K H y (.tuple es)) (z : ds.length + es.length ≤ 100000) (h : ∀ u H', Same H H' → Dp K H' u (.tuple (ds ++ es)) → Q u H') : rCatA K x y H Q := by
  obtain ⟨a, xs, rfl, ha, hxs⟩ := dp_tuple hx
  obtain ⟨b, ys, rfl, hb, hys⟩ := dp_tuple hy
  have l1 := dpAll_len hxs
  have l2 := dpAll_len hys
  refine ⟨a, b, xs, ys, rfl, rfl, ha, hb, sz (by omega), fun e => ?_, fun _ e => ?_, fun _ _ p np => ?_⟩
  · subst e
    cases hxs
    exact h _ H (Same.refl _) hy
  · subst e
    cases hys
    rw [List.append_nil] at h
    exact h _ H (Same.refl _) hx
  · exact h _ _ (Same.new np) (.tup (tupOf upd_same) (dps_s (Same.new np) (dpAll_app hxs hys)))
/-- xs[:k] of a list -/
theorem w_slLTo {a : Addr} {xs : List V} {k : Nat} (s : SqL K H a xs) (h : ∀ p, H p = none → Q (.ref p) (upd H p (.lst (xs.take k)))) : rSlL K (.ref a) none (some (k : Nat)) H Q := by
  refine ⟨a, xs, rfl, s, fun p np => ?_⟩
  have e1 : HT.sIx xs.length 0 none = 0 := HT.sIx_none _ _
  have e2 : HT.sIx xs.length xs.length (some ((k : Nat) : Int)) = min k xs.length := HT.sIx_nat _ _ k
  have e3 : cutV xs none (some ((k : Nat) : Int)) = xs.take k := by
    unfold cutV
    rw [e1, e2]
    show xs.take (min k xs.length - 0) = xs.take k
    rw [Nat.sub_zero, List.take_eq_take_iff]
    omega
  rw [e3]
  exact h p np
end
theorem rel_lookup {env : Env} {x : Str} : ∀ {ns : List (Str × NameKind)}, ns.lookup x = some .cell ∨ ns.lookup x = some .free → (ns.map fun (n, k) => if (k == NameKind.free && env.scope.kind == .function && env.kindOf n == some .cell) then (n, NameKind.cell) else (n, k)).lookup x = some .cell ∨ (ns.map fun (n, k) => if (k == NameKind.free && env.scope.kind == .function && env.kindOf n == some .cell) then (n, NameKind.cell) else (n, k)).lookup x = some .free
  | [], h => by simp at h
  | (n, k) :: r, h => by
    have ih := @rel_lookup env x r
    rw [List.map_cons]
    cases hx : x == n with
    | true =>
      simp only [List.lookup_cons, hx] at h
      dsimp only
      split
      · left
        simp only [List.lookup_cons, hx]
      · simp only [List.lookup_cons, hx]
        exact h
    | false =>
      simp only [List.lookup_cons, hx] at h
      dsimp only
      split <;> simp only [List.lookup_cons, hx] <;> exact ih h
/-- a block in a block -/
theorem blkOk_in {N : List Str} {sc scope : Scope} {own : List (Str × Nat)} {cl : List (Str × Addr)} {C : Addr} {env : Env} (h : blkC N sc scope own = true) : BlkOk N (compEnvC sc cl C env).scope scope own := by
  have k := blkOk_by h
  exact ⟨k.kind, k.uniq, k.ix, fun y hy e => rel_lookup (k.free y hy e), k.own⟩

end RG

namespace RG
open PySem PySem.Spec PyProof.Rows L2
theorem back_adjust (n : Nat) : Builtin.Slice.sliceAdjust none none (-1) (n : Int) = ((n : Int) - 1, -1) := rfl
theorem back_places (n : Nat) : Builtin.Slice.slicePlaces ((n : Int) - 1) (-1) (-1) = n := by
  unfold Builtin.Slice.slicePlaces
  rw [if_neg (by decide)]
  split
  · have : ((n : Int) - 1 - -1 - 1) / (- -1) = (n : Int) - 1 := by
      rw [show (- -1 : Int) = 1 from rfl, Int.ediv_one]
      omega
    omega
  · omega
theorem fm_congr {α β : Type} {f g : α → Option β} : ∀ {l : List α}, (∀ m ∈ l, f m = g m) → l.filterMap f = l.filterMap g
  | [], _ => rfl
  | a :: l, h => by
    rw [List.filterMap_cons, List.filterMap_cons, h a (by simp), fm_congr fun m hm => h m (by simp [hm])]
theorem back_pick (xs : Array Value) : ((List.range xs.size).filterMap fun (m : Nat) => xs[((xs.size : Int) - 1 + (m : Int) * (-1)).toNat]?).toArray = xs.toList.reverse.toArray := by
  have e : ∀ m ∈ List.range xs.size, xs[((xs.size : Int) - 1 + (m : Int) * (-1)).toNat]? = xs.toList.reverse[m]? := by
    intro m hm
    have hm := List.mem_range.mp hm
    rw [List.getElem?_reverse (by simpa using hm), show ((xs.size : Int) - 1 + (m : Int) * (-1)).toNat = xs.size - 1 - m by omega]
    simp
  rw [fm_congr e]
  congr 1
  have : ∀ l : List Value, (List.range l.length).filterMap (fun m => l[m]?) = l := by
    intro l
    induction l with
    | nil => rfl
    | cons a l ih =>
      rw [List.length_cons, List.range_succ_eq_map, List.filterMap_cons]
      simp only [List.getElem?_cons_zero, List.filterMap_map]
      congr 1
  have h := this xs.toList.reverse
  rw [List.length_reverse, Array.length_toList] at h
  exact h
section
variable {prog : Program} {w : World} {A : Around} {E : Value → Shared → Prop} {s : Shared}
open HT in
theorem back_applied {sl : Addr} {vl vu vs : Value} {n : Nat} {Q : Int × Int × Nat → Shared → Prop} (hs : s.heap.IsSliceOf sl vl vu vs) (pl : IsPart vl none) (pu : IsPart vu none) (ps : IsPart vs (some (-1)))
    (h : Q ((n : Int) - 1, -1, n) s) : wpAny (model prog w) A (Builtin.Slice.sliceApplied (.ref sl) (pure (n : Int))) Q E s := by
  obtain ⟨os, hoo, hcc, hdd⟩ := id hs
  unfold Builtin.Slice.sliceApplied Builtin.Slice.sliceFields
  refine wpAny_bind (wpAny_bind (wpAny_field hoo hdd (x := vl) rfl (wpAny_bind (wpAny_field hoo hdd (x := vu) rfl (wpAny_bind (wpAny_field hoo hdd (x := vs) rfl (wpAny_pure ?_)))))))
  refine wpAny_bind (slicePart_ ps ?_)
  show wpAny _ _ (if ((-1 : Int) == 0) = true then _ else _) _ _ s
  rw [if_neg (by decide)]
  refine wpAny_bind (slicePart_ pl (wpAny_bind (slicePart_ pu (wpAny_bind (wpAny_pure ?_)))))
  show wpAny _ _ (pure ((n : Int) - 1, (-1 : Int), Builtin.Slice.slicePlaces ((n : Int) - 1) (-1) (-1))) _ _ s
  rw [back_places]
  exact wpAny_pure h
open HT in
theorem back_tuple {t sl : Addr} {items : Array Value} {vl vu vs : Value} {Q : Value → Shared → Prop} (htp : IsTup s.heap t items) (hs : s.heap.IsSliceOf sl vl vu vs) (pl : IsPart vl none) (pu : IsPart vu none) (ps : IsPart vs (some (-1)))
    (h : Q (.ref s.heap.objs.size) { s with heap := s.heap.push { cls := .type "tuple", data := .seq items.toList.reverse.toArray } })
    (hle : items.size ≤ sizeLine) : wpAny (model prog w) A (getItem (.ref t) (.ref sl)) Q E s := by
  have hnew : sizeOk (.seq items.toList.reverse.toArray) := by
    show items.toList.reverse.toArray.size ≤ sizeLine
    rw [List.size_toArray, List.length_reverse, Array.length_toList]
    exact hle
  obtain ⟨os, hoo, hcc, hdd⟩ := id hs
  have hTy : s.TypeIs (.ref sl) "slice" := ⟨os, hoo, hcc⟩
  unfold getItem
  try with_reducible refine wpAny_holding ?_
  first | refine wpAny_bind (wpAny_pure ?_) | skip
  refine wpAny_bind (wpAny_sequenceKey htp.typeIs (by decide) ?_)
  refine wpAny_bind (wpAny_callSpecial?_slot (name := Str.ofString "__getitem__") htp.typeIs PyProof.Rows.slot_tuple_getitem (wpAny_call_entry PyProof.Rows.slot_tuple_getitem htp.typeIs entry_tuple_getitem ?_ (args_tuple_getitem _ _)))
  show wpAny _ _ (Builtin.Tuple.tupleItemsOf (.ref t) >>= _) _ _ s
  refine wpAny_bind (tupleItemsOf_ htp ?_)
  refine wpAny_bind (wpAny_typeOf hTy ?_)
  rw [if_pos (by decide)]
  refine wpAny_bind (back_applied hs pl pu ps ?_)
  have hno : ¬ ((((items.size : Int) - 1) == 0 && (-1 : Int) == 1 && items.size == items.size) = true) := by simp
  show wpAny _ _ (if (((items.size : Int) - 1) == 0 && (-1 : Int) == 1 && items.size == items.size) = true then _ else _) _ _ s
  rw [if_neg hno, back_pick]
  first
    | exact wpAny_bind (m := Builtin.Tuple.tupleExact _) (wpAny_newObj_type (wpAny_pure ⟨_, rfl, wpAny_pure h⟩) hnew)
    | exact wpAny_bind (m := Builtin.Tuple.tupleExact _) (wpAny_newObj_type (wpAny_bind (wpAny_pure (wpAny_pure ⟨_, rfl, wpAny_pure h⟩))) hnew)
    | exact wpAny_bind (wpAny_bind (m := Builtin.Tuple.tupleExact _) (wpAny_newObj_type (wpAny_pure (wpAny_pure ⟨_, rfl, wpAny_pure h⟩)) hnew))
    | exact wpAny_bind (wpAny_bind (m := Builtin.Tuple.tupleExact _) (wpAny_newObj_type (wpAny_pure ⟨_, rfl, wpAny_pure h⟩) hnew))
end
/-- t[::-1], t a tuple -/
def tBackT (K : PySem.W.Frag) (te : TE) : TE := fun σ H Q => te σ H fun x H1 => ∃ a xs, x = .ref a ∧ SqT K H1 a xs ∧ ∀ p, H1 p = none → Q (.ref p) (upd H1 p (.tup xs.reverse))
section
variable {X : Cx}
theorem pe_backT {e : Expr} {te : TE} {k : Nat} {p1 p2 p3 pos : Pos} (he : PE X e te) : PE X (.Subscript e (.Slice none none (some (.UnaryOp .USub (.Constant (.int 1) k p1) p2)) p3) pos) (tBackT X.K te) := by
  refine ⟨fun pn s σ H Q I h => ?_⟩
  refine Subscript_ (thn (he.run pn s σ H _ I h) fun v z1 ⟨x, H1, J1, rv, qv⟩ => ?_)
  obtain ⟨a, xs, ex, hx, q⟩ := qv
  subst ex
  cases rv
  have hpm : PO X (some (.UnaryOp .USub (.Constant (.int 1) k p1) p2)) (tPart (tUn (rU fun i => .int (-i)) (tC (.int 1)))) := po_some (pe_un un_neg pe_int)
  refine wpAny_Slice (thn (po_none.run pn z1 σ H1 (fun o H2 => o = none ∧ H2 = H1) J1 ⟨rfl, rfl⟩) fun vl z2 ⟨l, H2, J2, pl, el, e2⟩ => ?_)
  subst el e2
  refine thn (po_none.run pn z2 σ H2 (fun o H3 => o = none ∧ H3 = H2) J2 ⟨rfl, rfl⟩) fun vu z3 ⟨u, H3, J3, pu, eu, e3⟩ => ?_
  subst eu e3
  refine thn (hpm.run pn z3 σ H3 (fun o H4 => o = some (-1) ∧ H4 = H3) J3 ⟨1, rfl, -1, rfl, rfl, rfl⟩) fun vs z4 ⟨o, H4, J4, ps, eo, e4⟩ => ?_
  subst eo e4
  have J5 : Inv X pn σ H4 { z4 with heap := z4.heap.push { cls := .type "slice", data := .fields #[vl, vu, vs] } } := J4.kept (t' := z4.toks) fun b ob q => Heap.get?_push_of_some _ q
  obtain ⟨its, r, htp, hz⟩ := J5.tuple hx
  have hlen := r.length
  show wpAny (model X.prog X.w) X.A (subscriptTail e (.Slice none none (some (.UnaryOp .USub (.Constant (.int 1) k p1) p2)) p3) (.ref a) (.ref z4.heap.objs.size)) (EP X pn σ Q) X.xe { z4 with heap := z4.heap.push { cls := .type "slice", data := .fields #[vl, vu, vs] } }
  refine tail_any (ops := [.ref a, .ref z4.heap.objs.size]) htp.typeIs PyProof.Rows.slot_tuple_getitem.lookup ?_ (by with_unfolding_all rfl)
  refine back_tuple htp (Heap.IsSliceOf.new _ vl vu vs) pl pu ps ?_ (by rw [List.size_toArray]; omega)
  refine ⟨.ref _, _, J5.laid (t' := z4.toks) (o := .tup xs.reverse) (fun b ob q => Heap.get?_push_of_some _ q) (Nat.le_refl _) ?_, rfl, q _ (J5.hok.fresh (Nat.le_refl _))⟩
  exact ⟨by rw [List.length_reverse]; exact hz, _, r.reverse, IsTup.new _ _⟩
end
end RG

namespace RG
open PySem PySem.Spec PyProof.Rows L2
theorem w_par3 {σ : L2.St} {H : Hp} {D : Ends} {i j l : Nat} {ta : TA} (h : ta σ H fun vs H1 => ∃ u v w, vs = [u, v, w] ∧ D.nx (((σ.set i (some u)).set j (some v)).set l (some w)) H1) : tPar3 i j l ta D σ H := h
theorem w_back {K : PySem.W.Frag} {σ : L2.St} {H : Hp} {Q : VK} {te : TE} (h : te σ H fun x H1 => ∃ a xs, x = .ref a ∧ SqT K H1 a xs ∧ ∀ p, H1 p = none → Q (.ref p) (upd H1 p (.tup xs.reverse))) : tBackT K te σ H Q := h
end RG
namespace RG
open PySem PySem.Spec PyProof.Rows L2
theorem w_cat {H : Hp} {Q : VK} {a b : Addr} {xs ys : List V} (ha : H a = some (.lst xs)) (hb : H b = some (.lst ys)) (z : xs.length + ys.length ≤ 100000) (h : ∀ p, H p = none → Q (.ref p) (upd H p (.lst (xs ++ ys)))) : rCat (.ref a) (.ref b) H Q := ⟨a, b, xs, ys, rfl, rfl, ha, hb, sz z, h⟩
theorem tyL {K : PySem.W.Frag} {H : Hp} {p : Addr} {xs : List V} (h : H p = some (.lst xs)) : tyV K "list" (.ref p) H := .inl ⟨rfl, _, lstOf h⟩
theorem w_catT {K : PySem.W.Frag} {H : Hp} {Q : VK} {a b : Addr} {x y : V} {xs ys : List V} (ha : SqT K H a (x :: xs)) (hb : SqT K H b (y :: ys)) (z : (x :: xs).length + (y :: ys).length ≤ 100000) (h : ∀ p, H p = none → Q (.ref p) (upd H p (.tup (x :: xs ++ y :: ys)))) : rCatT K (.ref a) (.ref b) H Q := ⟨a, b, _, _, rfl, rfl, ha, hb, by simp, sz z, fun e => (by cases e), fun _ => h⟩
end RG
namespace RG
open PySem PySem.Spec PyProof.Rows L2
section
variable {K : PySem.W.Frag} {H : Hp} {Q : VK}
/-- a new list, a new tuple: what stood stands -/
theorem w_newL {xs : List V} (hl : xs.length ≤ 100000) (h : ∀ p H2, Same H H2 → H p = none → H2 p = some (.lst xs) → Q (.ref p) H2) : NewL xs H Q := ⟨sz hl, fun p np => h p _ (Same.new np) np upd_same⟩
theorem w_newT {xs : List V} (hl : xs.length ≤ 100000) (h : ∀ p H2, Same H H2 → H p = none → H2 p = some (.tup xs) → Q (.ref p) H2) : NewT xs H Q := ⟨sz hl, fun p np => h p _ (Same.new np) np upd_same⟩
theorem w_catN {a b : Addr} {xs ys : List V} (ha : H a = some (.lst xs)) (hb : H b = some (.lst ys)) (z : xs.length + ys.length ≤ 100000) (h : ∀ p H2, Same H H2 → H p = none → H2 p = some (.lst (xs ++ ys)) → Q (.ref p) H2) : rCat (.ref a) (.ref b) H Q :=
  w_cat ha hb z fun p np => h p _ (Same.new np) np upd_same
/-- an item put to a list that is newer than H0 -/
theorem w_appN {H0 : Hp} {a : Addr} {xs : List V} {v : V} (s : Same H0 H) (n : H0 a = none) (ha : H a = some (.lst xs)) (z : xs.length < 100000) (h : ∀ H2, Same H0 H2 → H2 a = some (.lst (xs ++ [v])) → (∀ b, b ≠ a → H2 b = H b) → Q .non H2) : rAppend (.ref a) [v] H Q :=
  w_app ha z (h _ (fun b o e => by rw [upd_ne (ne_of_none e n)]; exact s b o e) upd_same fun b nb => upd_ne nb)
end
end RG
namespace RG
open PySem PySem.Spec PyProof.Rows L2
theorem depthAll_le {m : Nat} : ∀ {ds : List PyData}, (∀ d ∈ ds, d.depth ≤ m) → PyData.depthAll ds ≤ m
  | [], _ => by simp [PyData.depthAll]
  | d :: ds, h => by
    have h1 := h d (by simp)
    have h2 := depthAll_le (ds := ds) fun e he => h e (by simp [he])
    simp only [PyData.depthAll]
    omega
theorem canLayAll_mem : ∀ {ds : List PyData}, (∀ d ∈ ds, d.canLay0 = true) → PyData.canLayAll0 ds = true
  | [], _ => rfl
  | d :: ds, h => by
    have h2 := canLayAll_mem (ds := ds) fun e he => h e (by simp [he])
    simp only [PyData.canLayAll0, h d (by simp), h2, Bool.and_self]
theorem narrowAll_of : ∀ {ds : List PyData}, (∀ d ∈ ds, narrow d = true) → narrowAll ds = true
  | [], _ => rfl
  | d :: ds, h => by
    have h2 := narrowAll_of (ds := ds) fun e he => h e (by simp [he])
    simp only [narrowAll, h d (by simp), h2, Bool.and_self]
end RG
namespace RG
open PySem PySem.Spec PyProof.Rows L2
theorem w_neB {H : Hp} {Q : VK} {a b : Bool} (h : Q (.bl (a != b)) H) : rNe (.bl a) (.bl b) H Q := ⟨rfl, by
  have e : (!decide (V.bl a = V.bl b)) = (a != b) := by
    cases a <;> cases b <;> rfl
  rw [e]
  exact h⟩
theorem w_eqB {H : Hp} {Q : VK} {a b : Bool} (h : Q (.bl (a == b)) H) : rEq (.bl a) (.bl b) H Q := ⟨rfl, by
  have e : decide (V.bl a = V.bl b) = (a == b) := by
    cases a <;> cases b <;> rfl
  rw [e]
  exact h⟩
end RG
/-! ### own classes: methods kept by their promises -/
namespace RG
open PySem PySem.Spec PyProof.Rows L2
/-- a method of an own class, kept by its promise (self is the first of ps) -/
structure OkM (P : Program) (w : World) (K : PySem.W.Frag) (mg : Str → Option Value) (base : Heap) (k : Nat) (C m : Str) (ps : List Str) (sp : Sp) : Prop where
  me : Meth K (He.ga K C) m (He.ma K (He.ga K C) m)
  ex : ∃ fd, fdAt K (He.ma K (He.ga K C) m) = some fd ∧ BindsE fd ps ∧ FnOk P w K mg base (CXN P w) k (He.ma K (He.ga K C) m) fd ps sp
def BindAllM (m qn : Str) (st : Stmt) (ps : List Str) : Prop := ∀ (kV doc pm : Value) (an : Option Addr) (cdv ct : Value) (us : List Value), us.length = ps.length →
  bindArgs (PySem.W.fnOf m qn (defArgs st) (defBody st) (defScope st) .none kV doc pm an cdv ct) ⟨us, []⟩ = pure (ps.zip us)
abbrev FnAtM (K : PySem.W.Frag) (C m qn : Str) (st : Stmt) : Prop := ∃ fd, FunD K m qn (defArgs st) (defBody st) (defScope st) [] [] (He.ma K (He.ga K C) m) fd
section
variable {P : Program} {w : World} {K : PySem.W.Frag} {mg : Str → Option Value} {base : Heap}
theorem OkM.mk' {C m qn : Str} {st : Stmt} {N ps : List Str} {k : Nat} {sp : Sp} (M : Meth K (He.ga K C) m (He.ma K (He.ga K C) m)) (F : FnAtM K C m qn st) (b : BindAllM m qn st ps) (S : FnScope N ps (defScope st)) (len : ∀ vs H Q E, sp vs H Q E → vs.length = ps.length)
    (body : ∀ (cdv : Value) (A : Around) (outer : List Env) (s : Shared) (H : Hp) (vs : List V) (Q : VK) (E : XK), Room k (A.deeper (envOfC qn (defScope st) s.heap.objs.size (He.ma K (He.ga K C) m) cdv)) → sp vs H Q E →
      ∃ t, PSs (cxOf (CXN P w) P w K mg base N qn (defScope st) (He.ma K (He.ga K C) m) cdv A outer s H E) (defBody st) t ∧ t { nx := fun _ H' => Q .non H', rt := Q } (start N vs) H) : OkM P w K mg base (k + 1) C m ps sp := by
  obtain ⟨fd, F⟩ := F
  have e : fdAt K (He.ma K (He.ga K C) m) = some fd := by
    obtain ⟨oc, od, dV, kV, doc, pm, an, cdv, ct, osl, rfl, lk, _⟩ := F.ex
    unfold fdAt
    rw [lk]
  exact ⟨M, fd, e, F.bindsA b, F.ok S len body⟩
end
section
variable {X : Cx}
/-- o.m(e, ..) -/
theorem pe_m {pl : Sem Bool} {j k : Nat} {C m : Str} {ps : List Str} {sp : Sp} {E : XK} {apos pos : Pos} {o e : Expr} {es : List Expr} {to : TE} {t : TA} (G : OkM X.prog X.w X.K X.mg X.base j C m ps sp) (c : Cls X.K (He.ga X.K C)) (hr : Room k X.A) (hx : Passes (CXN X.prog X.w) X E) (ho : PE X o to) (ha : PA X (e :: es) t)
    (hk : j ≤ k := by first | decide | omega) (he : starEach (e :: es) X.env = (false, eval e X.env) :: starEach es X.env := by rfl) (hpl : (backTo pos (starEach es X.env)).any (·.1) = false := by rfl)
    (ht : eval (.Call (.Attribute o m apos) (e :: es) [] pos) X.env = (do
      let ov ← eval o X.env
      standAt apos.atName
      let (f, first) ← holding [ov] (getMethod ov m pl)
      callWith pos f first (backTo pos (starEach (e :: es) X.env)) (backToKw pos (keywordEach [] X.env))) := by rfl) :
    PE X (.Call (.Attribute o m apos) (e :: es) [] pos) (tMeth (He.ga X.K C) m sp [] E to t) := by
  obtain ⟨me, fd, fe, b, F⟩ := G
  exact pe_meth (pl := pl) ho c me F (hr.mono hk) b.binds .nil hx ha he hpl ht
/-- o.m() -/
theorem pe_m0 {pl : Sem Bool} {j k : Nat} {C m : Str} {ps : List Str} {sp : Sp} {E : XK} {apos pos : Pos} {o : Expr} {to : TE} (G : OkM X.prog X.w X.K X.mg X.base j C m ps sp) (c : Cls X.K (He.ga X.K C)) (hr : Room k X.A) (hx : Passes (CXN X.prog X.w) X E) (ho : PE X o to)
    (hk : j ≤ k := by first | decide | omega)
    (ht : eval (.Call (.Attribute o m apos) [] [] pos) X.env = (do
      let ov ← eval o X.env
      standAt apos.atName
      let (f, first) ← holding [ov] (getMethod ov m pl)
      callWith pos f first (backTo pos (starEach [] X.env)) (backToKw pos (keywordEach [] X.env))) := by rfl) :
    PE X (.Call (.Attribute o m apos) [] [] pos) (tMeth (He.ga X.K C) m sp [] E to tNil) := by
  obtain ⟨me, fd, fe, b, F⟩ := G
  exact pe_meth0 (pl := pl) ho c me F (hr.mono hk) b.binds .nil hx ht
/-- C(e, ..), C an own class with __init__ -/
theorem pe_new {j k : Nat} {C : Str} {ps : List Str} {sp : Sp} {E : XK} {p pos : Pos} {e : Expr} {es : List Expr} {t : TA} (G : OkM X.prog X.w X.K X.mg X.base j C "__init__" ps sp) (M : Mk X.K (He.ga X.K C) (He.ma X.K (He.ga X.K C) "__init__")) (gl : X.mg C = some (.ref (He.ga X.K C))) (hr : Room k X.A) (hx : Passes (CXN X.prog X.w) X E) (ha : PA X (e :: es) t)
    (hk : j + 1 ≤ k := by first | decide | omega) (hg : Gl X C := by rfl) (hdb : (C == ("__debug__" : Str)) = false := by decide) (he : starEach (e :: es) X.env = (false, eval e X.env) :: starEach es X.env := by rfl) (hpl : (backTo pos (starEach es X.env)).any (·.1) = false := by rfl) :
    PE X (.Call (.Name C p) (e :: es) [] pos) (tMake (He.ga X.K C) sp [] E t) := by
  obtain ⟨me, fd, fe, b, F⟩ := G
  exact pe_make M F (hr.mono hk) hg gl b.binds .nil hx ha hdb he hpl
/-- C() -/
theorem pe_new0 {j k : Nat} {C : Str} {ps : List Str} {sp : Sp} {E : XK} {p pos : Pos} (G : OkM X.prog X.w X.K X.mg X.base j C "__init__" ps sp) (M : Mk X.K (He.ga X.K C) (He.ma X.K (He.ga X.K C) "__init__")) (gl : X.mg C = some (.ref (He.ga X.K C))) (hr : Room k X.A) (hx : Passes (CXN X.prog X.w) X E)
    (hk : j + 1 ≤ k := by first | decide | omega) (hg : Gl X C := by rfl) (hdb : (C == ("__debug__" : Str)) = false := by decide) : PE X (.Call (.Name C p) [] [] pos) (tMake (He.ga X.K C) sp [] E tNil) := by
  obtain ⟨me, fd, fe, b, F⟩ := G
  exact pe_make0 M F (hr.mono hk) hg gl b.binds .nil hx hdb
end
end RG
namespace RG
open PySem PySem.Spec PyProof.Rows L2
section
variable {K : PySem.W.Frag} {σ : L2.St} {H : Hp} {D : Ends} {ta tv to : TE} {Q : VK} {f m : Str} {a C dx : Addr} {fs : List (Str × V)} {v y : V} {t : TA} {sp : Sp} {E : XK}
theorem w_tfld (h : ta σ H fun x H1 => ∃ a C dx fs v, x = .ref a ∧ H1 a = some (.ins C dx fs) ∧ Cls K C ∧ NoAttr K C f ∧ fs.lookup f = some v ∧ Q v H1) : tFld K ta f σ H Q := h
theorem w_sfld (h : tv σ H fun y H1 => ta σ H1 fun x H2 => ∃ a C dx fs, x = .ref a ∧ H2 a = some (.ins C dx fs) ∧ Cls K C ∧ NoAttr K C f ∧ fs.length < 1000 ∧ D.nx σ (upd H2 a (.ins C dx (putF f y fs)))) : sFld K ta tv f D σ H := h
theorem w_meth (h : ta σ H fun x H1 => ∃ a dx fs, x = .ref a ∧ H1 a = some (.ins C dx fs) ∧ fs.lookup m = none ∧ t σ H1 fun vs H2 => sp (x :: (vs ++ [])) H2 Q E) : tMeth C m sp [] E ta t σ H Q := h
theorem w_make (h : t σ H fun vs H1 => ∀ x dx, H1 x = none → H1 dx = none → dx ≠ x → sp (.ref x :: (vs ++ [])) (upd (upd H1 dx (.own x)) x (.ins C dx [])) (fun v H2 => v = .non ∧ Q (.ref x) H2) E) : tMake C sp [] E t σ H Q := h
end
end RG
/-! ### len(o), str(o), o == p by own methods; list.count -/
namespace RG
open PySem PySem.Spec PyProof.Rows L2
section
variable {X : Cx} {pins : List (Addr × Obj)} {σ : L2.St} {H : Hp} {s : Shared}
/-- a def run below the running body -/
theorem run_below {A : Around} {k : Nat} {f : Addr} {fd : FuncData} {ps : List Str} {sp : Sp} {E : XK} {Q : VK} {us : List Value} {vs : List V} (F : FnOk X.prog X.w X.K X.mg X.base (CXN X.prog X.w) k f fd ps sp) (hr : Room k A) (e0 : Env0 X.prog X.w X.K X.mg X.base A X.stack s H) (hb : BindsE fd ps) (hx : Passes (CXN X.prog X.w) X E)
    (I : Inv X pins σ H s) (r : Vals vs us) (h : sp vs H Q E) : wpAny (model X.prog X.w) A (call (.ref f) us) (EP X pins σ Q) X.xe s := by
  have hl : us.length = ps.length := by rw [← r.length]; exact F.len _ _ _ _ h
  refine wpAny_call (codeAny_mono (F.run A X.stack s H ⟨us, []⟩ us vs Q E hr e0 (hb s us hl) r h) fun r s' hq => ?_)
  cases r with
  | error e => exact hx pins σ H s e s' I hq
  | ok fl =>
    cases fl with
    | ret u => exact I.after hq
    | _ => exact False.elim hq
end
/-- len(o) by an own __len__ -/
def rLenO (C : Addr) (sp : Sp) (E : XK) : List V → Hp → VK → Prop := fun xs H Q => ∃ a dx fs, xs = [V.ref a] ∧ H a = some (.ins C dx fs) ∧ sp [.ref a] H (fun z H' => ∃ n : Nat, z = .int (n : Nat) ∧ n ≤ 100000 ∧ Q z H') E
/-- str(o) by an own __str__ -/
def rStrO (C : Addr) (sp : Sp) (E : XK) : List V → Hp → VK → Prop := fun xs H Q => ∃ a dx fs, xs = [V.ref a] ∧ H a = some (.ins C dx fs) ∧ sp [.ref a] H (fun z H' => ∃ y, z = .str y ∧ Q z H') E
section
variable {X : Cx}
theorem call_lenO {j k : Nat} {C : Str} {sp : Sp} {E : XK} (G : OkM X.prog X.w X.K X.mg X.base j C "__len__" ["self"] sp) (hr : Room k X.A) (hx : Passes (CXN X.prog X.w) X E) (hk : j + 1 ≤ k := by first | decide | omega) : CallR X (.builtin "len") (rLenO (He.ga X.K C) sp E) := by
  intro pins s σ H xs us Q I r h
  obtain ⟨a, dx, fs, rfl, ha, q⟩ := h
  obtain ⟨u, rfl, ru⟩ := vals1 r
  cases (show u = Value.ref a from ru)
  obtain ⟨mA, O, _⟩ := ins_get I.hok ha
  obtain ⟨od, J, _⟩ := O.look
  obtain ⟨me, fd, fe, b, F⟩ := G
  have hr1 : Room j X.A.in1 := (hr.mono hk).in1
  refine Calls.call_function_entry kind_len plain_len entry_len (args_len1 _) ?_
  unfold Builtin.«len»
  refine wpAny_bind (m := oneArg "len" _) (wpAny_pure ?_)
  refine wpAny_bind (m := callSpecial? (.ref a) (Str.ofString "__len__")) (PySem.W.special_fn I.kIn J me.at_ (beq_iff_eq.mp me.fn) (wpAny_mono (run_below (us := [.ref a]) (vs := [.ref a]) F hr1 I.env0.in1 b hx I (.cons rfl .nil) q) (fun w s' z => ?_) fun _ _ x => x))
  obtain ⟨z', H', I', rz, n, en, hn, qz⟩ := z
  subst en
  obtain ⟨t, e⟩ := (show ∃ t, w = Value.int (n : Nat) t from rz)
  cases e
  refine wpAny_bind (wpAny_holding (wpAny_pure ?_))
  refine wpAny_bind (wpAny_letGo ?_)
  show wpAny _ _ (if (n : Int) < 0 then _ else _) _ _ _
  rw [if_neg (by omega)]
  show wpAny _ _ (if (n : Int) ≥ 2 ^ 63 then _ else _) _ _ _
  rw [if_neg (by omega)]
  exact wpAny_bind (wpAny_mkInt (wpAny_pure ⟨_, rfl, .int (n : Nat), H', I'.tok _, ⟨_, rfl⟩, qz⟩))
theorem call_strO {j k : Nat} {C : Str} {sp : Sp} {E : XK} (G : OkM X.prog X.w X.K X.mg X.base j C "__str__" ["self"] sp) (hr : Room k X.A) (hx : Passes (CXN X.prog X.w) X E) (hk : j + 2 ≤ k := by first | decide | omega) : CallR X (.type "str") (rStrO (He.ga X.K C) sp E) := by
  intro pins s σ H xs us Q I r h
  obtain ⟨a, dx, fs, rfl, ha, q⟩ := h
  obtain ⟨u, rfl, ru⟩ := vals1 r
  cases (show u = Value.ref a from ru)
  obtain ⟨mA, O, _⟩ := ins_get I.hok ha
  obtain ⟨od, J, _⟩ := O.look
  obtain ⟨me, fd, fe, b, F⟩ := G
  have hr2 : Room j X.A.in1.in1 := (show Room (j + 1) X.A.in1 from (hr.mono hk).in1).in1
  refine PySem.W.kso_call (by have := hr2.un; omega) I.kIn J me.at_ me.fn (wpAny_mono (run_below (us := [.ref a]) (vs := [.ref a]) F hr2 I.env0.in1.in1 b hx I (.cons rfl .nil) q) (fun w s' z => ?_) fun _ _ x => x)
  obtain ⟨z', H', I', rz, y, ey, qz⟩ := z
  subst ey
  obtain ⟨t, e⟩ := (show ∃ t, w = Value.str y t from rz)
  cases e
  exact ⟨.str y, H', I', ⟨t, rfl⟩, qz⟩
end
theorem count_eqU {x : V} : ∀ {xs : List V} {us : List Value}, Vals xs us → xs.all flatV = true → us.countP (eqU x) = xs.countP fun y => eqV y x
  | _, _, .nil, _ => rfl
  | y :: xs, u :: us, .cons r t, f => by
    rw [List.all_cons, Bool.and_eq_true] at f
    rw [List.countP_cons, List.countP_cons, eqU_of r f.1, count_eqU t f.2]
/-- xs.count(x), flat items -/
def rCntF (K : PySem.W.Frag) : V → List V → Hp → VK → Prop := fun x xs H Q => ∃ (p : Addr) (ys : List V) (y : V), x = .ref p ∧ xs = [y] ∧ SqL K H p ys ∧ flatV y = true ∧ ys.all flatV = true ∧ Q (.int (ys.countP fun z => eqV z y : Nat)) H
section
variable {X : Cx}
theorem mt_cntF : MtR X "list.count" (rCntF X.K) := by
  intro pins s σ H x xs v us Q I rx rxs h
  obtain ⟨p, ys, y, rfl, rfl, hs, fy, fs, q⟩ := h
  cases rx
  obtain ⟨u, rfl, ru⟩ := rxs.one
  obtain ⟨its, rv, ⟨⟨cls, dd, data, sl⟩, n, ho, hc, hdn, hd⟩, hlen⟩ := I.list hs
  simp only at hc hd
  subst hc hd
  refine call_meets PySem.F.slot_list_count ⟨_, ho, rfl⟩ PySem.F.entry_list_count (PySem.F.args_list_count_2 _ _) (SeqAt.list_countAt p its.toArray n dd sl u (eqU y)) ⟨ho, fun z hz => mem_eqAt ru fy rv fs z (by simpa using hz), ?_⟩
  refine ⟨.int (ys.countP fun z => eqV z y : Nat), H, I.tok _, ⟨s.toks, ?_⟩, q⟩
  show Value.int ((its.toArray.toList.countP (eqU y) : Nat) : Int) s.toks = Value.int ((ys.countP fun z => eqV z y : Nat) : Int) s.toks
  rw [show its.toArray.toList.countP (eqU y) = ys.countP fun z => eqV z y from count_eqU rv fs]
end
end RG
namespace RG
open PySem PySem.Spec PyProof.Rows L2
/-- one sign in a text -/
def rInSg : R2 := fun x y H Q => ∃ (c : Nat) (z : Str), x = .str ⟨#[c]⟩ ∧ y = .str z ∧ Q (.bl (decide (c ∈ z.cps.toList))) H
theorem w_inSg {H : Hp} {Q : VK} {c : Nat} {z : Str} (h : Q (.bl (decide (c ∈ z.cps.toList))) H) : rInSg (.str ⟨#[c]⟩) (.str z) H Q := ⟨c, z, rfl, rfl, h⟩
theorem w_iStr {te : TE} {σ : L2.St} {H : Hp} {R : It → Hp → Prop} (h : te σ H fun v H1 => ∃ x, v = .str x ∧ R (Its x) H1) : iStr te σ H R := h
end RG
/-! ### defs called where an exception is handled; lambdas handed to a def (own words over the hand layer) -/
namespace RG
open PySem PySem.Spec PyProof.Rows L2 HotX
section
variable {prog : Program} {w : World} {A : Around} {E : Value → Shared → Prop} {s : Shared}
/-- the end of a list's walk while an exception is handled -/
theorem list_end_hot {it l x1 : Addr} {i : Nat} {its : Array Value} {Q : Option Value → Shared → Prop} (hot : HotAt A x1 s.heap) (nx : x1 ≠ it) (st : s.heap.IsListIter it l i) (hl : s.heap.IsList l its) (no : its[i]? = none)
    (k : ∀ h2, Heap.ExtBut it s.heap h2 → Q none { s with heap := h2 }) : wpAny (model prog w) A (pyNext (.ref it)) Q E s := by
  obtain ⟨oi, goi, _, di⟩ := id st
  obtain ⟨ol, gol, _, nl, dl⟩ := hl
  obtain ⟨hh, o1, vs1, g1, d1, c1⟩ := hot
  unfold pyNext
  refine wpAny_bind (wpAny_attempt (wpAny_callSpecial?_slot (name := Str.ofString "__next__") st.typeIs slot_listiter_next (wpAny_call_entry slot_listiter_next st.typeIs entry_listiter_next ?_ (args_listiter_next _))))
  refine (show wpAny _ _ (field (.ref it) 0 >>= _) _ _ s from wpAny_bind (wpAny_field goi di (x := .ref l) rfl ?_))
  have n0 : ¬ ((Value.ref l == Value.none) = true) := Bool.false_ne_true
  show wpAny _ _ (if (Value.ref l == Value.none) = true then _ else _) _ _ s; rw [if_neg n0]
  refine (show wpAny _ _ (field (.ref it) 1 >>= _) _ _ s from wpAny_bind (wpAny_field goi di (x := .int i 0) rfl ?_))
  refine (show wpAny _ _ (seqItems? (.ref l) >>= _) _ _ s from wpAny_bind (wpAny_seqItems gol dl ?_))
  simp only [no, Int.toNat_natCast]
  refine wpAny_bind (wpAny_rule (wpAny_bind (wpAny_setField goi di (by simp) ?_)))
  have g2 : ∀ f, (s.heap.update it f).get? x1 = some o1 := fun f => by rw [Heap.get?_update_other _ _ nx.symm]; exact g1
  refine (show wpAny _ _ (newExc (.type "StopIteration") [] >>= _) _ _ _ from wpAny_bind ?_)
  simp only [newTuple, newExc]
  refine wpAny_bind (wpAny_newObj_type ?_ (by size_fits))
  refine wpAny_bind (m := firstArgMember _ _) (wpAny_of_eq (a := Value.none) (by first | rfl | (simp only [firstArgMember]; rfl)) (wpAny_newObj_type ?_ (by size_fits)))
  refine raiseNew_hot ⟨hh, o1, vs1, Heap.get?_push_of_some _ (Heap.get?_push_of_some _ (g2 _)), d1, c1⟩ (Nat.ne_of_lt (Heap.lt_size (Heap.get?_push_of_some _ (g2 _)))) (Heap.get?_push_size _ rfl) rfl (by first | (simp; done) | (simp; omega)) ?_
  refine wpAny_bind (wpAny_isInstance (T := "StopIteration") (b := true) ⟨_, Heap.get?_update_self _ (Heap.get?_push_size _ rfl) rfl, rfl⟩ isSubtype_stop (wpAny_pure (k _ fun b o nb e => ?_)))
  have e2 : ∀ f, (s.heap.update it f).get? b = some o := fun f => by rw [Heap.get?_update_other _ _ nb.symm]; exact e
  rw [Heap.get?_update_other _ _ (Nat.ne_of_gt (Heap.lt_size (Heap.get?_push_of_some _ (e2 _))))]
  exact Heap.get?_push_of_some _ (Heap.get?_push_of_some _ (e2 _))
end
end RG
namespace RG
open PySem PySem.Spec PyProof.Rows L2 HotX L2H
section
variable {X : Cx} {pins : List (Addr × Obj)} {σ : L2.St} {H : Hp} {s : Shared}
/-- the handled exception's object: out of the reach of all that changes -/
theorem hotC_pin {p : Addr × Obj} (hp : p ∈ X.pn) (I : Inv X pins σ H s) : s.heap.get? p.1 = some p.2 ∧ H p.1 = none ∧ p.1 ∉ frs X.stack ∧ ∀ v, p.2.data ≠ .cell v := by
  obtain ⟨a, b, c, d, e⟩ := I.pin p (List.mem_append_left _ hp)
  exact ⟨a, b, fun hm => (List.mem_cons.mp (I.stkSub p.1 hm)).elim c d, e⟩
/-- [elt for tg in iter] where an exception is handled: each item y by its x, nothing else changes -/
def tLcH (K : PySem.W.Frag) (ti : TE) (g : TG) (te : TE) (vs : List Nat) : TE := fun σ H Q => ti σ H fun v H1 => ∃ (a : Addr) (xs ys : List V), v = .ref a ∧ H1 a = some (.lst xs) ∧ ys.length = xs.length ∧ xs.length ≤ 1000 ∧
  (∀ (j : Nat) (x y : V) (H2 : Hp), xs[j]? = some x → ys[j]? = some y → g x (wipe σ vs) H2 fun σ2 H3 => wipe σ2 vs = wipe σ vs ∧ te σ2 H3 fun z H4 => z = y ∧ H4 = H2) ∧ ∀ D, H1 D = none → Q (.ref D) (upd H1 D (.lst ys))
theorem pe_lcH {elt tg iter : Expr} {scope : Scope} {own : List (Str × Nat)} {pos : Pos} {ti : TE} {g : TG} {te : TE} (hot : HotC X) (nd : X.N.Nodup) (hi : PE X iter ti) (ok : BlkOk X.N X.env.scope scope own)
    (hg : ∀ (s : Shared) (H : Hp) (C : Addr) (cl : List (Str × Addr)) (fp : List Addr), PG (X.blk s H scope (compEnvC scope cl C X.env) fp) tg g)
    (he : ∀ (s : Shared) (H : Hp) (C : Addr) (cl : List (Str × Addr)) (fp : List Addr), PE (X.blk s H scope (compEnvC scope cl C X.env) fp) elt te)
    (hs : ∀ x, foldedSetIterable iter X.env x = pure x := by intro _; rfl) : PE X (.ListComp elt [⟨tg, iter, [], 0⟩] scope pos) (tLcH X.K ti g te (own.map (·.2))) := by
  refine ⟨fun pins s σ H Q I h => ?_⟩
  obtain ⟨p, ⟨hh, v1, e1, c1⟩, hp⟩ := hot
  rw [eval_ListComp]
  have hfree : ∀ y ∈ scope.names, y.2 = .free → ∃ c, X.env.cells.lookup y.1 = some c := fun y hy e => (ok.free y hy e).elim (fun k => I.ok.has _ (.inl k)) fun k => I.ok.has _ (.inr k)
  refine wpAny_comprehension_free (use := none) rfl hs (closure_ok hfree) ok.kind (fun y hy e => by rw [ok.uniq y hy, e]) (thn (hi.run pins s σ H _ I h) fun xv s1 hx => ?_)
  obtain ⟨v, H1, I1, rv, a, xs, ys, rfl, ha, hyl, hxl, step, q⟩ := hx
  obtain rfl : xv = Value.ref a := rv
  obtain ⟨its, ri, pl, _⟩ := I1.list (SqL.of ha)
  refine wpAny_pyIter_list pl.isList ?_
  generalize hIt : s1.heap.objs.size = it
  generalize hs2 : ({ s1 with heap := s1.heap.push { cls := .type "list_iterator", data := .fields #[.ref a, .int 0 0] } } : Shared) = s2
  have h2 : s2.heap = s1.heap.push { cls := .type "list_iterator", data := .fields #[.ref a, .int 0 0] } := by rw [← hs2]
  have I2 : Inv X pins σ H1 s2 := by
    rw [← hs2]
    exact I1.kept (t' := s1.toks) fun b o e => Heap.get?_push_of_some _ e
  have st2 : s2.heap.IsListIter it a 0 := by
    rw [h2, ← hIt]
    exact ⟨_, Heap.get?_push_size _ rfl, rfl, rfl⟩
  have fit : FpOk X pins H1 it := I1.fpOk (Nat.le_of_eq hIt) (I1.hok.fresh (Nat.le_of_eq hIt))
  have lit : it < s2.heap.objs.size := by
    rw [h2, Heap.size_push, ← hIt]
    exact Nat.lt_succ_self _
  refine wpAny_newObj_type (newEnv_comp ?_) (by show 0 ≤ sizeLine; decide)
  generalize hD : s2.heap.objs.size = D
  have nD : H1 D = none := I2.hok.fresh (Nat.le_of_eq hD)
  have qD := q D nD
  generalize hs3 : ({ s2 with heap := s2.heap.push { cls := .type "list", data := .seq ([] : List Value).toArray } } : Shared) = s3
  have h3 : s3.heap = s2.heap.push { cls := .type "list", data := .seq ([] : List Value).toArray } := by rw [← hs3]
  have I3 : Inv X pins σ (upd H1 D (.lst [])) s3 := by
    rw [← hs3]
    refine I2.laid (t' := s2.toks) (fun b o e => Heap.get?_push_of_some _ e) (Nat.le_of_eq hD) ⟨Nat.zero_le _, [], 0, .nil, ?_⟩
    rw [← hD]
    exact Heap.get?_push_size _ rfl
  have fp3 : ∀ b ∈ [it], FpOk X pins (upd H1 D (.lst [])) b ∧ b < s3.heap.objs.size := fun b hb => by
    cases List.mem_singleton.mp hb
    refine ⟨⟨?_, fit.2⟩, by rw [h3, Heap.size_push]; exact Nat.lt_succ_of_lt lit⟩
    rw [upd_ne (by rw [← hD]; exact Nat.ne_of_lt lit)]
    exact fit.1
  have st3 : s3.heap.IsListIter it a 0 := st2.at fun o e => by rw [h3]; exact Heap.get?_push_of_some _ e
  have I4 := block_start I3 ok nd fp3
  have pg := hg s3 (upd H1 D (.lst [])) s3.heap.objs.size (cellsFrom (s3.heap.objs.size + 1) scope.names (cloFrom X.env.cells scope.names [])) [it]
  have pe := he s3 (upd H1 D (.lst [])) s3.heap.objs.size (cellsFrom (s3.heap.objs.size + 1) scope.names (cloFrom X.env.cells scope.names [])) [it]
  show codeAny _ _ (.compStart (.ListComp elt [⟨tg, iter, [], 0⟩] scope pos) 0 (.ref it) (.ref D) (compEnvC scope (cellsFrom (s3.heap.objs.size + 1) scope.names (cloFrom X.env.cells scope.names [])) s3.heap.objs.size X.env)) (compPost (model X.prog X.w) X.A X.xe none _ (.ref D) s3.heap.objs.size) { s3 with heap := pushCells (s3.heap.push { cls := .type "dict", data := .dict #[] }) scope.names }
  obtain ⟨gp, np, fp, _⟩ := hotC_pin hp I3
  have npit : p.1 ≠ it := (fp3 it (by simp)).1.2.2.2.2.2 p (List.mem_append_left _ hp)
  have nit3 : (upd H1 D (.lst [])) it = none := (fp3 it (by simp)).1.1
  generalize hce : compEnvC scope (cellsFrom (s3.heap.objs.size + 1) scope.names (cloFrom X.env.cells scope.names [])) s3.heap.objs.size X.env = ce at I4 pg pe ⊢
  have cL : ce.locals = s3.heap.objs.size := by subst hce; rfl
  have naD : a ≠ D := ne_of_none ha nD
  generalize hH3 : upd H1 D (.lst []) = H3 at I3 I4 pg pe fp3 np nit3
  generalize hs4 : ({ s3 with heap := pushCells (s3.heap.push { cls := .type "dict", data := .dict #[] }) scope.names } : Shared) = s4 at I4 ⊢
  have st4 : s4.heap.IsListIter it a 0 := st3.at fun o e => by rw [← hs4]; exact pushCells_keeps _ _ _ _ (Heap.get?_push_of_some _ e)
  have stat : ∀ {σ' : L2.St} {H' : Hp} {s' : Shared}, Inv (X.blk s3 H3 scope ce [it]) [] σ' H' s' → H' it = none → FpOk (X.blk s3 H3 scope ce [it]) [] H' it := fun {σ' H' s'} J hn =>
    ⟨hn, (J.ok.exf it (by simp)).1, J.ok.exfs it (by simp), .inl (by simp), fun x c e => (J.ok.exf it (by simp)).2 x c e, fun r hr => absurd (show r ∈ ([] : List (Addr × Obj)) ++ [] from hr) (by simp)⟩
  have loop : codeAny (model X.prog X.w) X.A (.compLoop (.ListComp elt [⟨tg, iter, [], 0⟩] scope pos) 0 (.ref it) (.ref D) ce) (compPost (model X.prog X.w) X.A X.xe none (EP X pins σ Q) (.ref D) s3.heap.objs.size) s4 := by
    refine compLoop_any (fun n s' => ∃ j, j ≤ xs.length ∧ n = xs.length - j ∧ Inv (X.blk s3 H3 scope ce [it]) [] (wipe σ (own.map (·.2))) (upd H1 D (.lst (ys.take j))) s' ∧ s'.heap.IsListIter it a j) ?_ xs.length ⟨0, Nat.zero_le _, rfl, by rw [List.take_zero, hH3]; exact I4, st4⟩
    rintro n s5 ⟨j, hj, rfl, I5, st5⟩
    have hn5 : (upd H1 D (.lst (ys.take j))) it = none := by
      rw [upd_ne (by rw [← hD]; exact Nat.ne_of_lt lit)]
      exact fit.1
    obtain ⟨f0, f1, f2, f3, f4, f5⟩ := stat I5 hn5
    have ha5 : (upd H1 D (.lst (ys.take j))) a = some (.lst xs) := by
      rw [upd_ne naD]
      exact ha
    obtain ⟨its5, ri5, pl5, _⟩ := I5.list (SqL.of ha5)
    have len5 := ri5.length
    rcases Nat.lt_or_ge j xs.length with hlt | hge
    · obtain ⟨u, hu, ru⟩ := ri5.get (show xs[j]? = some xs[j] from List.getElem?_eq_getElem hlt)
      refine wpAny_pyNext_list_item st5 pl5.isList (x := u) (by simpa using hu) fun h6 st6 sb => ?_
      have I6 : Inv (X.blk s3 H3 scope ce [it]) [] (wipe σ (own.map (·.2))) (upd H1 D (.lst (ys.take j))) { s5 with heap := h6 } := I5.turned (t' := s5.toks) (fun b o hb e => (sb.2 b hb).trans e) f0 f1 f3 f4 f5
      obtain ⟨o6, g6, c6, d6⟩ := id st6
      refine go_of (s := { s5 with heap := h6 }) g6 c6 d6 (by decide) ?_
      have I6' := I6.pinned (fp := [it]) (fun b hb => by cases List.mem_singleton.mp hb; exact stat I6 hn5) (fun b hb => by cases List.mem_singleton.mp hb; exact ⟨o6, g6, fun v z => by rw [d6] at z; cases z⟩)
      have hjy : j < ys.length := by omega
      have hstep := step j xs[j] ys[j] (upd H1 D (.lst (ys.take j))) (List.getElem?_eq_getElem hlt) (List.getElem?_eq_getElem hjy)
      refine thnF (pg.run _ _ _ _ xs[j] u _ I6' ru hstep) fun _ s8 ⟨σ8, H8, I8, hw8, q8⟩ => ?_
      refine wpAny_tests_nil ?_
      rw [if_pos rfl]
      refine thnF (pe.run _ s8 σ8 H8 _ I8 q8) fun z s10 ⟨yv, H10, I10, r10, ey, eH⟩ => ?_
      subst ey eH
      refine app_ok (X := X.blk s3 H3 scope ce [it]) I10 upd_same (by rw [List.length_take, sizeLine_eq]; omega) r10 fun s11 I11 => ?_
      have hl : (wipe σ (own.map (·.2))).length = σ8.length := by rw [← hw8, wipe_length]
      refine ⟨xs.length - (j + 1), by omega, j + 1, hlt, rfl, ?_, ?_⟩
      · have eU : upd (upd H1 D (.lst (ys.take j))) D (.lst (ys.take j ++ [ys[j]])) = upd H1 D (.lst (ys.take (j + 1))) := by
          rw [List.take_add_one, List.getElem?_eq_getElem hjy]
          funext b
          unfold upd
          split <;> rfl
        have I12 := (I11.unpinned (pins := [])).weak hl (fun m v e => by
          rw [← hw8] at e
          exact (wipe_some e).1)
        rw [eU] at I12
        exact I12
      · refine st6.at fun o e => ?_
        exact (I11.pin (it, o) (List.mem_append_right _ (List.mem_append_right _ (mem_pinsAt (by simp) e)))).1
    · have ej : j = xs.length := by omega
      subst ej
      have gp5 : s5.heap.get? p.1 = some p.2 := I5.base.keep p.1 p.2 gp np fp (by
        intro hm
        exact npit (List.mem_singleton.mp hm))
      refine list_end_hot (x1 := p.1) ⟨hh, p.2, v1, gp5, e1, c1⟩ npit st5 pl5.isList (by simp; omega) fun h6 eb => ?_
      have I6 : Inv (X.blk s3 H3 scope ce [it]) [] (wipe σ (own.map (·.2))) (upd H1 D (.lst (ys.take xs.length))) { s5 with heap := h6 } := I5.turned (t' := s5.toks) (fun b o hb e => eb b o hb e) f0 f1 f3 f4 f5
      have I7 : Inv X pins σ (upd H1 D (.lst (ys.take xs.length))) { s5 with heap := h6 } := I3.call' (ch := [it]) I6.os I6.base I6.hok I6.bare fun b hb => ⟨(fp3 b hb).1.2.2.2.1, (fp3 b hb).1.2.1, (fp3 b hb).1.2.2.2.2.1, (fp3 b hb).1.2.2.2.2.2⟩
      have nC : (upd H1 D (.lst (ys.take xs.length))) s3.heap.objs.size = none := by
        have z : (upd H1 D (.lst (ys.take xs.length))) ce.locals = none := I6.free
        rw [cL] at z
        exact z
      obtain ⟨m, hn, _⟩ := I6.loc
      have hn : h6.Ns ce.locals m := hn
      rw [cL] at hn
      obtain ⟨k0, k1, k2, k3, k4, k5⟩ := I3.fpOk (H' := upd H1 D (.lst (ys.take xs.length))) (Nat.le_refl _) nC
      refine ⟨m, hn, fun h'' sb => ⟨.ref D, _, I7.turned (t' := s5.toks) (fun b o hb e => (sb.2 b hb).trans e) k0 k1 k3 k4 k5, rfl, ?_⟩⟩
      rw [← hyl, List.take_length]
      exact qD
  exact codeAny_compStart_list loop (wpAny_pyIter_listiter st4 loop)
end
end RG
namespace RG
open PySem PySem.Spec PyProof.Rows L2 HotX L2H
section
variable {prog : Program} {w : World} {A : Around} {E : Value → Shared → Prop} {s : Shared}
theorem walks_hot {x1 I l : Addr} (hh : A.handled = some (.ref x1)) {o1 : Obj} {vs1 : Array Value} (d1 : o1.data = .fields vs1) (c1 : vs1[2]? = some .none) (nl : l ≠ I) (nx : x1 ≠ I) (its : Array Value) :
    Walks prog w A I [I, l, x1] [I] its.size (fun i v => its[i]? = some v) (fun i h => (h.IsListIter I l i ∧ h.IsList l its) ∧ h.get? x1 = some o1) where
  sub := fun b hb => by simp at hb; simp [hb]
  frame := fun _ _ _ st hk => ⟨⟨st.1.1.at fun o e => hk I (by simp) o e, st.1.2.at fun o e => hk l (by simp) o e⟩, hk x1 (by simp) _ st.2⟩
  item := fun i s Q E hi st hQ => by
    refine wpAny_pyNext_list_item st.1.1 st.1.2 (x := its[i]) (by simp [hi]) fun h2 st2 sb => ?_
    exact hQ _ h2 s.toks (by simp [hi]) ⟨⟨st2, st.1.2.extBut sb.extBut nl⟩, sb.extBut _ _ nx st.2⟩ fun b o hb e => sb.extBut b o (fun z => hb (by simp [z])) e
  done := fun s Q E st hQ => list_end_hot ⟨hh, o1, vs1, st.2, d1, c1⟩ nx st.1.1 st.1.2 (by simp) fun h2 eb => hQ h2 s.toks fun b o hb e => eb b o (fun z => hb (by simp [z])) e
  self := fun _ _ _ _ st hQ => wpAny_pyIter_listiter st.1.1 hQ
theorem sum_hot {x1 l : Addr} {its : List Value} {ns : List Int} {Q : Value → Shared → Prop} (hot : HotAt A x1 s.heap) (hl : s.heap.IsList l its.toArray) (hi : IntsAre its ns)
    (k : ∀ h2 tk t2, (∀ b o, s.heap.get? b = some o → h2.get? b = some o) → Q (.int ns.sum t2) { s with heap := h2, toks := tk }) : wpAny (model prog w) A (call (.builtin "sum") [.ref l]) Q E s := by
  obtain ⟨xs, e⟩ := hi.allInts.items
  have hn : numsOf (intItems xs).toList = ns := by rw [← e]; exact hi.numsOf
  rw [nums_intItems] at hn
  rw [e] at hl
  obtain ⟨hh, o1, vs1, g1, d1, c1⟩ := hot
  have lx : x1 < s.heap.objs.size := Heap.lt_size g1
  refine call_sum_walkG (iter_intList hl fun s2 e2 st hfp hlI => ?_)
  subst e2
  refine ⟨_, _, _, _, _, _, numAt xs, rfl, walks_hot (A := A.in1) (x1 := x1) hh d1 c1 hlI (Nat.ne_of_lt lx) (intItems xs), ⟨st, Heap.get?_push_of_some _ g1⟩, fun b hb => ?_, (fun _ _ => intItems_at), fun h2 tk t2 hk => ?_⟩
  · rcases List.mem_cons.mp hb with rfl | hb
    · exact hfp _ (by simp)
    · rcases List.mem_cons.mp hb with rfl | hb
      · exact hfp _ (by simp)
      · cases List.mem_singleton.mp hb
        show x1 < (s.heap.push _).objs.size
        rw [Heap.size_push]
        exact Nat.lt_succ_of_lt lx
  · have z := k h2 tk t2 (old_kept hk)
    rw [← hn] at z
    have e3 : preSum (numAt xs) xs.size = (xs.toList.map (·.1)).sum := by
      rw [preSum_eq, List.take_of_length_le (by simp)]
    simpa [intItems, e3] using z
end
section
variable {X : Cx}
theorem cr_sumH (hot : HotC X) : CallR X (.builtin "sum") (rSum X.K) := by
  intro pins s σ H vs us Q I r h
  obtain ⟨a, ns, rfl, hs, q⟩ := h
  obtain ⟨its, rv, hl, _⟩ := I.list hs
  obtain ⟨x1, ht⟩ := hot.at I
  rw [Vals.ref1 r]
  exact sum_hot ht hl.isList rv.ints fun h2 tk t2 hk => ⟨.int _, H, I.kept hk, ⟨_, rfl⟩, q⟩
end
end RG
namespace RG
open PySem PySem.W PySem.Spec PySem.Calls PyProof.Rows
section
variable {prog : Program} {w : World} {A : Around} {E : Value → Shared → Prop} {s : Shared} {K : Frag} {x D : Addr} {ox : Obj}
theorem found_class {od : Option Obj} (C : L2.ExcC K D) : findObj K D od "__class__" = some (.bind (.builtin "getset_descriptor.__get__") (.builtin "object.__class__")) := by
  obtain ⟨cd, hc, _⟩ := any_some C.hd
  unfold findObj
  rw [hc, Option.bind_some, C.ha, Option.bind_some]
  simp [C.hn, C.ht]
/-- e.__class__, whatever the exception's own dict -/
theorem class_of {Q : Option Value → Shared → Prop} {od : Option Obj} (C : L2.ExcC K D) (X : K.In s.heap) (I : PySem.W.InstAt s.heap x ox D od) (q : Q (some (.ref D)) { s with toks := s.toks + 1 }) : wpAny (model prog w) A (getAttr? (.ref x) "__class__") Q E s := by
  obtain ⟨hp, g, d, t, os⟩ := s
  have T0 := I.type (M := model prog w)
  have T1 := looks_findIn (M := model prog w) X C.hg
  have T2 := looks_findIn (M := model prog w) X C.hk
  have T3 := looks_find (M := model prog w) X I (found_class (od := od) C)
  have T4 : Looks (model prog w) hp (isInstance (.ref x) (.type "BaseException")) true := T0.andThen (looks_subIn X C.hs)
  have b0 : (Value.builtin "BaseException.__getattribute__" == Value.builtin "object.__getattribute__") = false := by decide +kernel
  have b1 : (onTheHeap (Value.ref D) && Value.builtin "BaseException.__getattribute__" == Value.builtin "object.__getattribute__") = false := by rw [b0]; rfl
  have b2 : (false && onTheHeap (Value.builtin "BaseException.__getattribute__")) = false := rfl
  unfold getAttr? getAttrBy? getAttrBy
  refine wpAny_bind (wpAny_mkText (wpAny_bind (wpAny_attempt (wpAny_holding (wpAny_bind (T0.at (wpAny_bind (T1.at ?_))))))))
  show wpAny _ _ (if (onTheHeap (Value.ref D) && Value.builtin "BaseException.__getattribute__" == Value.builtin "object.__getattribute__") = true then _ else _) _ _ _; rw [b1, if_neg Bool.false_ne_true]
  unfold getAttrByItsOwn hookBefore
  have b3 : onTheHeap (Value.ref D) = true := rfl
  refine wpAny_bind ?_; rw [if_pos b3]
  refine T2.at (wpAny_bind (wpAny_attempt (wpAny_holding ?_)))
  unfold callGetattribute
  rw [b2, if_neg Bool.false_ne_true]
  unfold boundAndCalled
  rw [PySem.F.excAttr_ValueError.ga.bind (.ref x)]
  refine wpAny_bind (wpAny_pure (show wpAny _ _ (call (.builtin "BaseException.__getattribute__") [.ref x, .str "__class__" t]) _ _ _ from wpAny_call (codeAny_call_builtin PySem.F.excAttr_ValueError.ga.plain PySem.F.entry_bexc_ga ?_)))
  refine @check_slot (model prog w) _ _ ⟨hp, g, d, t + 1, os⟩ "BaseException.__getattribute__" "BaseException" "__getattribute__" (.ref x) [.str "__class__" t] [] _ (by decide +kernel) (by decide +kernel) T4 (PySem.F.args_bexc_ga (.ref x) (.str "__class__" t)) ?_
  unfold Builtin.«object.__getattribute__»
  refine wpAny_bind (wpAny_of_eq (a := ((Value.ref x : Value), [Value.str "__class__" t])) (by first | rfl | (simp only [slotArgs]; rfl)) (wpAny_bind (wpAny_pure (wpAny_bind (T0.at (wpAny_bind (T3.at ?_)))))))
  show wpAny _ _ (holding [Value.builtin "object.__class__"] (call (.builtin "getset_descriptor.__get__") [.builtin "object.__class__", .ref x, .ref D]) >>= ret) _ _ _
  refine wpAny_bind (wpAny_holding (wpAny_call (class_get (s := ⟨hp, g, d, t + 1, os⟩) (ox := ox) (od := od) X I C.hm (wpAny_pure ?_))))
  show wpAny _ _ (handedOut (.ref D)) _ _ _; rw [handedOut_of (v := .ref D) rfl]
  first
    | exact wpAny_pure (wpAny_pure q)
    | exact wpAny_pure q
    | exact wpAny_pure (wpAny_bind (wpAny_pure (wpAny_pure q)))
theorem kit_exc (C : L2.ExcC K D) : KitX K (.ref x) (.ref D) (fun h => ∃ od, PySem.W.InstAt h x ox D od) where
  ty := fun _ _ _ ⟨_, I⟩ => I.type
  it := fun _ _ X _ => by
    obtain ⟨cd, hc, _⟩ := any_some C.hd
    unfold clsIn at hc
    split at hc
    · rename_i lk
      exact fun _ _ _ _ k q => by
        unfold isType loadHead
        exact wpAny_bind (wpAny_loadPart (k _ _ (X _ _ lk)) (wpAny_pure q))
    · cases hc
  ne := fun h tp dd its n sl X htp => by
    obtain ⟨cd, hc, _⟩ := any_some C.hd
    refine Bool.eq_false_iff.mpr fun z => ?_
    cases Value.ref.inj (beq_iff_eq.mp z)
    unfold clsIn at hc
    split at hc
    · rename_i lk
      cases (X _ _ lk).symm.trans htp
    · cases hc
  ca := fun X ⟨_, I⟩ k => class_of C X I k
end
end RG
namespace RG
open PySem PySem.Spec PyProof.Rows L2 HotX L2H
/-- isinstance(e, c), e the exception that is handled -/
def rIsP (K : PySem.W.Frag) (D a : Addr) (d : Option Addr) : List V → Hp → VK → Prop := fun xs H Q => ∃ (c : V) (cv : Value) (b : Bool), xs = [.ref a, c] ∧ (∀ u, RelV c u → u = cv) ∧ PySem.W.kitOne K (.ref D) cv = some b ∧ (∀ dx, d = some dx → ∃ fs, H dx = some (.xd fs)) ∧ Q (.bl b) H
theorem call_isP {X : Cx} {p : Addr × Obj} {D : Addr} {d : Option Addr} (hp : p ∈ X.pn) (C : ExcC X.K D) (hz : Zc (.ref D) d p.2) (hf : ∃ vs, p.2.data = .fields vs) : CallR X (.builtin "isinstance") (rIsP X.K D p.1 d) := by
  intro pins s σ H xs us Q I r h
  obtain ⟨c, cv, b, rfl, hcv, e, hd, q⟩ := h
  cases r with
  | cons rx rr =>
  cases rr with
  | cons rt rr =>
  cases rr
  cases rx
  cases hcv _ rt
  obtain ⟨gp, _⟩ := I.pin p (List.mem_append_left _ hp)
  have J : ∃ od, PySem.W.InstAt s.heap p.1 p.2 D od := by
    obtain ⟨vs, hv⟩ := hf
    obtain ⟨h1, h2⟩ := hz
    have no : PySem.W.notCls p.2 = true := by
      obtain ⟨a, o⟩ := p
      obtain ⟨oc, odd, oda, osl⟩ := o
      dsimp only at hv
      subst hv
      rfl
    cases hdd : d with
    | none =>
      refine ⟨none, gp, h1, no, ?_⟩
      rw [h2, hdd]
      trivial
    | some dx =>
      obtain ⟨fs, hx⟩ := hd dx hdd
      have := I.hok dx _ hx
      obtain ⟨o, ho⟩ : ∃ o, s.heap.get? dx = some o := by
        obtain ⟨_, ⟨o, _, _, ho, _⟩, _⟩ := this
        exact ⟨o, ho⟩
      refine ⟨some o, gp, h1, no, ?_⟩
      rw [h2, hdd]
      exact ho
  exact PySem.W.kia_one (kit_exc (x := p.1) (ox := p.2) C) I.kIn J e (fun z => nomatch z) fun tk => ⟨.bl b, H, I.kept (t' := tk) fun _ _ z => z, rfl, q⟩
end RG
namespace RG
open PySem PySem.Spec PyProof.Rows L2 HotX L2H
/-! a def called in an except suite: its promise by the handled exception's object -/
structure FnW (P : Program) (w : World) (K : PySem.W.Frag) (mg : Str → Option Value) (base : Heap) (k : Nat) (f : Addr) (fd : FuncData) (ps : List Str) (sp : Addr × Obj → Sp) : Prop where
  len : ∀ p vs H Q E, sp p vs H Q E → vs.length = ps.length
  run : ∀ (A : Around) (outer : List Env) (s : Shared) (H : Hp) (args : Args) (us : List Value) (vs : List V) (Q : VK) (E : XK) (p : Addr × Obj), RoomH k A → Hot1 A p → PinOk outer H s p → Env0 P w K mg base A outer s H → BindsTo s fd args (ps.zip us) → Vals vs us → sp p vs H Q E →
    codeAny (model P w) A (.call (.ref f) args) (CR (CXN P w) outer P w H s Q E) s
theorem fnW_of {P : Program} {w : World} {K : PySem.W.Frag} {mg : Str → Option Value} {base : Heap} {k : Nat} {x : Str} {st : Stmt} {N ps : List Str} {sp : Addr × Obj → Sp} {fd : FuncData} (F : FunD K x x (defArgs st) (defBody st) (defScope st) [] [] (He.ga K x) fd) (S : FnScope N ps (defScope st))
    (len : ∀ p vs H Q E, sp p vs H Q E → vs.length = ps.length)
    (body : ∀ (cdv : Value) (A : Around) (outer : List Env) (s : Shared) (H : Hp) (vs : List V) (Q : VK) (E : XK) (p : Addr × Obj), Hot1 A p → RoomH k (A.deeper (envOfC x (defScope st) s.heap.objs.size (He.ga K x) cdv)) → sp p vs H Q E →
      ∃ t, PSs (cxH (CXN P w) P w K mg base N x (defScope st) (He.ga K x) cdv A outer s H E p) (defBody st) t ∧ t { nx := fun _ H' => Q .non H', rt := Q } (L2.start N vs) H) : FnW P w K mg base (k + 1) (He.ga K x) fd ps sp := by
  obtain ⟨oc, od, dV, kV, doc, pm, an, cdv, ct, osl, rfl, lk, hcd, _⟩ := F.ex
  refine ⟨len, fun A outer s H args us vs Q E p hr hot hpin e0 hb r hsp => ?_⟩
  have hl := len _ _ _ _ _ hsp
  have X0 : K.In s.heap := e0.mod.kin.keeps fun b o e => (e0.bs b o e).1
  have L0 : s.heap.NoLimit := e0.mod.nolimit.keeps fun b o e => (e0.bs b o e).1
  have kn : ∀ y ∈ ps.zip us, (defScope st).names.lookup y.1 = some .local ∨ ((defScope st).names.lookup y.1 = some .cell ∧ ((cellsFrom (s.heap.objs.size + 1) (defScope st).names []).lookup y.1).isSome = true) := fun ⟨n, v⟩ hy =>
    (S.par n (List.of_mem_zip hy).1).elim .inl fun q => .inr ⟨q, PySem.W.cellsFrom_some _ _ _ (.inl q)⟩
  refine codeAny_call_function hr.depth (X0 _ _ lk) rfl S.co S.gen rfl (PySem.W.codeRec_of X0 hcd) (hb _ _ _ _ (wpAny_newFunctionEnv_cells S.kind kn fun env he s1 x1 => ?_))
  subst he
  refine ⟨L0.keeps x1.toInCall.keep, codeAny_func ?_⟩
  obtain ⟨t, ht, hq⟩ := body cdv A outer s H vs Q E p hot (hr.deeper _) hsp
  have I : Inv (cxH (CXN P w) P w K mg base N x (defScope st) (He.ga K x) cdv A outer s H E p) [] (L2.start N vs) H s1 := inv_startH S hpin e0 hl r x1
  refine wpAny_mono (ht.run [] s1 (L2.start N vs) H _ I hq) (fun fl s2 hs => ?_) fun _ _ z => z
  cases fl with
  | ret u =>
    obtain ⟨v, _, H2, J, rv, q⟩ := hs
    exact ⟨v, H2, J.os, J.bare, J.base, J.hok, rv, q⟩
  | next =>
    obtain ⟨_, H2, J, q⟩ := hs
    exact ⟨.non, H2, J.os, J.bare, J.base, J.hok, rfl, q⟩
  | brk =>
    obtain ⟨_, _, _, q⟩ := hs
    exact q.elim
  | cont =>
    obtain ⟨_, _, _, q⟩ := hs
    exact q.elim
/-- x(e), the handled exception's object p -/
def tCallW (sp : Sp) (t : TA) : TE := fun σ H Q => t σ H fun vs H1 => sp vs H1 Q E0
theorem pe_callW {X : Cx} {k : Nat} {x : Str} {fd : FuncData} {ps : List Str} {sp : Addr × Obj → Sp} {q pos : Pos} {e : Expr} {es : List Expr} {t : TA} {p : Addr × Obj} (F : FnW X.prog X.w X.K X.mg X.base k (He.ga X.K x) fd ps sp) (b : BindsE fd ps) (kp : PySem.W.keepIn X.K (.ref (He.ga X.K x)) = true) (hm : X.mg x = some (.ref (He.ga X.K x)))
    (hr : RoomH k X.A) (hot : Hot1 X.A p) (hp : p ∈ X.pn) (ha : PA X (e :: es) t) (hg : Gl X x := by rfl) (hdb : (x == ("__debug__" : Str)) = false := by decide)
    (he : starEach (e :: es) X.env = (false, eval e X.env) :: starEach es X.env := by rfl) (hpl : (backTo pos (starEach es X.env)).any (·.1) = false := by rfl) :
    PE X (.Call (.Name x q) (e :: es) [] pos) (tCallW (sp p) t) := by
  refine ⟨fun pins s σ H Q I h => wpAny_Call_Name_kw (ld_glob I hg hm ?_ hdb)⟩
  refine PySem.W.callWith_K (h₀ := X.base) I.ok.mod.kin kp (thn (ha.run pos pins s σ H _ I h) fun us s1 ⟨vs, H1, I1, r, hsp⟩ => ⟨I1.kIn, ?_⟩) he hpl
  have hl : us.length = ps.length := by rw [← r.length]; exact F.len _ _ _ _ _ hsp
  obtain ⟨gp, np, fp, cp⟩ := hotC_pin hp I1
  refine wpAny_call (codeAny_mono (F.run X.A X.stack s1 H1 ⟨us, []⟩ us vs Q E0 p hr hot ⟨gp, np, fp, cp⟩ I1.env0 (b s1 us hl) r hsp) fun r s2 hq => ?_)
  cases r with
  | error z =>
    obtain ⟨_, _, _, _, _, _, _, _, _, _, _, _, z⟩ := hq
    exact z.elim
  | ok fl =>
    cases fl with
    | ret u => exact I1.after hq
    | next => exact False.elim hq
    | brk => exact False.elim hq
    | cont => exact False.elim hq
/-! try: .. except x as n: ..; except y as n: .. -/
/-- what such clauses wish of an exception: slot i is the name's -/
def wNm (K : PySem.W.Frag) (i : Nat) (Wout : WX) (D : Ends) : List (Value × (Addr → Value → Option Addr → TS)) → WX
  | [] => Wout
  | (c, ts) :: r => fun cls d σ H => ∃ b, PySem.W.exmOne K cls c = some b ∧ (b = true → ∀ a, H a = none → ts a cls d { nx := fun σ2 H2 => D.nx (σ2.set i none) H2, rt := D.rt, bk := fun σ2 H2 => D.bk (σ2.set i none) H2, ct := fun σ2 H2 => D.ct (σ2.set i none) H2 } (σ.set i (some (.ref a))) H) ∧ (b = false → wNm K i Wout D r cls d σ H)
inductive HdsNm (X : Cx) (n : Str) : List ExceptHandler → List (Value × (Addr → Value → Option Addr → TS)) → Prop
  | nil : HdsNm X n [] []
  | cons {x : Str} {c : Value} {ts : Addr → Value → Option Addr → TS} {b0 : Stmt} {suite : List Stmt} {np ps : Pos} {hds : List ExceptHandler} {l : List (Value × (Addr → Value → Option Addr → TS))} (hc : Names X x c)
      (hsu : ∀ (a : Addr) (oe : Obj) (cls : Value) (d : Option Addr) (pn : List (Addr × Obj)), L2N.Zn cls d oe → (∃ vs, oe.data = .fields vs) → PSs (X.suite a ((a, oe) :: pn)) (b0 :: suite) (ts a cls d)) (r : HdsNm X n hds l) :
      HdsNm X n (.ExceptHandler (some (.Name x np)) (some n) (b0 :: suite) ps :: hds) ((c, ts) :: l)
section
variable {X : Cx} {body : List Stmt} {h0 : ExceptHandler} {hds : List ExceptHandler} {l : List (Value × (Addr → Value → Option Addr → TS))} {pos : Pos} {tb : WX → TS} {Wout : WX} {n : Str} {i : Nat}
theorem ps_tryN (hs : X.stack = X.env :: X.outer) (hf : X.env.frame = some X.env.locals) (nd : X.N.Nodup) (hi : X.N[i]? = some n) (hln : X.env.kindOf n = some .local) (tk : L2N.Takes X Wout)
    (hb : ∀ (W : WX) (pn : List (Addr × Obj)) (xe : Value → Shared → Prop), L2N.Takes (X.tr pn xe) W → PSs (X.tr pn xe) body (tb W))
    (hh : HdsNm X n (h0 :: hds) l) : PS X (.Try body (h0 :: hds) [] [] pos) (fun D σ H => tb (wNm X.K i Wout D l) D σ H) := by
  refine ⟨fun pins s σ H D I h => ?_⟩
  have ok := I.ok
  have fr : X.A.frames = some (X.env :: X.outer) := by rw [ok.frames, hs]
  refine wpAny_Try_except (wpAny_mono ((hb (wNm X.K i Wout D l) (X.pn ++ pins) (fun e s1 => wpAny (model X.prog X.w) X.A (noteFrame e X.env) (fun _ s2 => wpAny (model X.prog X.w) X.A (setFlight e none) (fun _ s3 =>
    wpAny (model X.prog X.w) X.A (handleBy e X.env (h0 :: hds)) (SP X pins D) X.xe s3) X.xe s2) X.xe s1) (fun u s9 xx => ?_)).run [] s σ H D (I.toTry _) h) (fun f s1 hsp => ?_) (fun _ _ z => z))
  · obtain ⟨a, B, sI, pins2, σ2, H2, cls, d, rfl, J2, nb, up, sky, na, os, ag, w⟩ := xx
    have J : Inv X pins σ2 H2 sI := J2.ofTry ok
    have sky2 : Sky B (X.env :: X.outer) a (L2N.Zn cls d) X.env.locals s9.heap := by rw [← hs]; exact sky
    refine (show wpAny (model X.prog X.w) X.A (noteFrame (.ref a) X.env) _ _ _ from L2N.Sky.land L2N.Zn.steady fr hf sky2 fun h3 fl3 up3 => ?_)
    have J3 : Inv X pins σ2 H2 { s9 with heap := h3 } := J.landed nb fl3.1 (up.trans up3) os ag
    obtain ⟨oe3, vs3, he3, hz3, hd3⟩ := fl3.there
    have nfr : a ∉ frs (X.env :: X.outer) := fun hm => by
      obtain ⟨_, o2, e2, hnf⟩ := fl3.2.2.1.mem hm
      rw [he3] at e2
      cases e2
      exact hnf _ hd3
    have nL : a ≠ X.env.locals := fun z => nfr (List.mem_filterMap.mpr ⟨X.env, List.mem_cons_self, by rw [hf, z]⟩)
    have nF : a ∉ X.fs := fun hm => by
      obtain ⟨e, he, q⟩ := List.mem_filterMap.mp hm
      exact nfr (List.mem_filterMap.mpr ⟨e, List.mem_cons_of_mem _ he, q⟩)
    have S3 := J3.suite he3 hd3 na nL nF
    have go : ∀ {hs2 : List ExceptHandler} {l2 : List (Value × (Addr → Value → Option Addr → TS))}, HdsNm X n hs2 l2 → wNm X.K i Wout D l2 cls d σ2 H2 → wpAny (model X.prog X.w) X.A (handleBy (.ref a) X.env hs2) (SP X pins D) X.xe { s9 with heap := h3 } := by
      intro hs2 l2 hk
      induction hk with
      | nil =>
        intro w
        refine wpAny_handleBy_nil ?_
        obtain ⟨_, _, _, oe, vs, T, _, _, he, _, hd, h1, _⟩ := id fl3
        have nT : ¬ ((Value.ref T == Value.none) = true) := by simp
        unfold PySem.passOn
        refine wpAny_bind (wpAny_field he hd h1 ?_); rw [if_neg nT]
        have fin : wpAny (model X.prog X.w) X.A (setFlight (.ref a) X.env.frame) (fun _ s4 => wpAny (model X.prog X.w) X.A (throw (.ref a) : Sem Flow) (SP X pins D) X.xe s4) X.xe { s9 with heap := h3 } := by
          rw [hf]
          exact HandSPX.setFlight_upZ fl3 fun h4 hh4 up4 => wpAny_throw (tk _ _ ⟨a, B, sI, pins, σ2, H2, cls, d, rfl, J, nb, (up.trans up3).trans up4, .inr (.inr (by rw [hs]; exact hh4)), na, os, ag, w⟩)
        first
          | exact wpAny_bind (wpAny_pure (wpAny_bind fin))
          | exact wpAny_bind fin
      | @cons x c ts b0 suite np ps hds2 l2 hc hsu r ih =>
        intro w
        obtain ⟨b, hb1, hyes, hno⟩ := w
        refine wpAny_handleBy_cons (codeAny_handlers_test ?_) (by intro q; cases q)
        have LT : PySem.W.Looks (model X.prog X.w) h3 (typeOf (.ref a)) cls := fun A Q E s k q => wpAny_typeOf_ref (k _ _ he3) (by rw [hz3.1]; exact q)
        have LM := PySem.W.exm_one (M := model X.prog X.w) (J3.kIn) LT hb1
        have test : ∀ {Q : Value → Shared → Prop} {E : Value → Shared → Prop}, Q c { s9 with heap := h3 } → wpAny (model X.prog X.w) (X.A.mark (some (.ref a))) (eval (.Name x np) X.env) Q E { s9 with heap := h3 } := fun {Q E} q => by
          obtain ⟨hg, hdbg, hm | ⟨hm, hv, hnn⟩⟩ := hc
          · exact ld_glob (X := X.suite a ((a, oe3) :: (X.pn ++ pins))) S3 hg hm q hdbg
          · exact ld_blt (X := X.suite a ((a, oe3) :: (X.pn ++ pins))) S3 hg hm hv q hnn hdbg
        refine test (LM.here ?_)
        cases b with
        | true =>
          refine codeAny_handlers_suite_as (HandSPX.lands_againZ fl3 fun h4 fl4 up4 => ?_)
          have J4 : Inv X pins σ2 H2 { s9 with heap := h4 } := J.landed nb fl4.1 ((up.trans up3).trans up4) os ag
          obtain ⟨oe4, vs4, he4, hz4, hd4⟩ := fl4.there
          have S4 := J4.suite he4 hd4 na nL nF
          refine store_ok (X := X.suite a ((a, oe4) :: (X.pn ++ pins))) (v := .ref a) S4 nd hi (.inl hln) rfl (fun s5 S5 => ?_) (.inr hln)
          refine wpAny_mono ((hsu a oe4 cls d (X.pn ++ pins) hz4 ⟨_, hd4⟩).run [] s5 _ H2 _ S5 (hyes rfl a na)) (fun f s6 hsp => ?_) (fun _ _ z => z.elim)
          have fin : ∀ {σ6 : L2.St} {H6 : Hp} {Q : Shared → Prop}, Inv (X.suite a ((a, oe4) :: (X.pn ++ pins))) [] σ6 H6 s6 → (∀ s7, Inv X pins (σ6.set i none) H6 s7 → Q s7) →
            wpAny (model X.prog X.w) X.A (do bindName X.env n .none; unbindBehindTheSuite X.env n ps) (fun _ s7 => Q s7) X.xe s6 := fun {σ6 H6 Q} S6 hq => gone_ok (S6.unsuite ok) nd hi hln hq
          cases f with
          | next =>
            obtain ⟨_, _, S6, q6⟩ := hsp
            exact fin S6 fun _ J7 => ⟨_, _, J7, q6⟩
          | brk =>
            obtain ⟨_, _, S6, q6⟩ := hsp
            exact fin S6 fun _ J7 => ⟨_, _, J7, q6⟩
          | cont =>
            obtain ⟨_, _, S6, q6⟩ := hsp
            exact fin S6 fun _ J7 => ⟨_, _, J7, q6⟩
          | ret u =>
            obtain ⟨_, _, _, S6, r6, q6⟩ := hsp
            exact fin S6 fun _ J7 => ⟨_, _, _, J7, r6, q6⟩
        | false => exact (show wpAny _ X.A (handleBy (.ref a) X.env hds2) _ _ _ from ih (hno rfl))
    exact go hh w
  · cases f with
    | next =>
      obtain ⟨_, _, J2, q⟩ := hsp
      exact wpAny_execs_nil ⟨_, _, J2.ofTry ok, q⟩
    | brk =>
      obtain ⟨_, _, J2, q⟩ := hsp
      exact ⟨_, _, J2.ofTry ok, q⟩
    | cont =>
      obtain ⟨_, _, J2, q⟩ := hsp
      exact ⟨_, _, J2.ofTry ok, q⟩
    | ret u =>
      obtain ⟨_, _, _, J2, r, q⟩ := hsp
      exact ⟨_, _, _, J2.ofTry ok, r, q⟩
end
end RG
namespace RG
open PySem PySem.Spec PyProof.Rows L2 HotX L2H LamX
/-! a lambda whose errors keep what is known of their context -/
abbrev lamCxN (X : Cx) (A : Around) (outer : List Env) (s : Shared) (H : Hp) (E : XK) (scope : Scope) (f c2 : Addr) : Cx :=
  (lamCx X A outer s H E scope f c2).tr [] fun e s1 => wpAny (model X.prog X.w) (A.deeper (lamEnv X scope s.heap.objs.size f c2)) (leaving (lamEnv X scope s.heap.objs.size f c2) e) (fun _ s2 => CXN X.prog X.w outer H s E e s2) (fun e2 s2 => CXN X.prog X.w outer H s E e2 s2) s1
section
variable {X : Cx} {pins : List (Addr × Obj)} {σ : L2.St} {H HZ : Hp} {s s1 : Shared}
theorem pe_actN {Eg : XK} {Ng : List Str} {qg : Str} {sg : Scope} {g f c2 : Addr} {cdg pm ctv : Value} {params : Arguments} {body : Expr} {scope : Scope} {k i : Nat} {a : Str} {pn : List (Addr × Obj)} {xe : Value → Shared → Prop} {W : WX} {E : XK} {tb : TE} {p1 p2 : Pos}
    (I : Inv X pins σ H s) (L : LamS X.env.scope scope) (hf : s.heap.get? f = some (PySem.W.kla_obj "<lambda>" (X.env.qual ++ "<lambda>") params body scope (cloFrom X.env.cells scope.names []) pm c2 ctv)) (nf : H f = none) (fr : f ∉ frs X.stack)
    (hbind : bindArgs (PySem.W.kla_fn "<lambda>" (X.env.qual ++ "<lambda>") params body scope (cloFrom X.env.cells scope.names []) pm (.ref c2) ctv) ⟨[], []⟩ = pure [])
    (tk : L2N.Takes ((cxOf (CXN X.prog X.w) X.prog X.w X.K X.mg X.base Ng qg sg g cdg X.A X.stack s H Eg).tr pn xe) W) (hW : ∀ cls d (σ2 : L2.St) H2, σ2.length = Ng.length → E cls d H2 → W cls d σ2 H2) (hr : Room (k + 1) (X.A.deeper (envOfC qg sg s.heap.objs.size g cdg)))
    (hbody : ∀ (A : Around) (outer : List Env) (s : Shared) (H : Hp), Room k (A.deeper (lamEnv X scope s.heap.objs.size f c2)) → PE (lamCxN X A outer s H E scope f c2) body tb)
    (hN : Ng[i]? = some a) (hv : Vis sg a) (hd : (a == ("__debug__" : Str)) = false := by decide) (hcd : (a == ("__classdict__" : Str)) = false := by decide) :
    PE ((cxOf (CXN X.prog X.w) X.prog X.w X.K X.mg X.base Ng qg sg g cdg X.A X.stack s H Eg).tr pn xe) (.Call (.Name a p1) [] [] p2) (fun σZ HZ Q => σZ[i]? = some (some (.ref f)) ∧ HZ c2 = some (CodeO c2 (X.env.qual ++ "<lambda>")) ∧ tb σ HZ Q) := by
  refine ⟨fun pinsZ sZ σZ HZ Q IZ h => ?_⟩
  obtain ⟨hs, hc, ht⟩ := h
  refine wpAny_Call_Name_kw (thn ((pe_var (pos := p1) (i := i) hN hv hd hcd).run pinsZ sZ σZ HZ (fun v H1 => v = .ref f ∧ H1 = HZ) IZ ⟨.ref f, hs, rfl, rfl⟩) fun u s1 ⟨v, H1, I1, r1, ev, eH⟩ => ?_)
  subst ev
  rw [eH] at I1
  obtain rfl : u = Value.ref f := r1
  have g1 : s1.heap.get? f = some (PySem.W.kla_obj "<lambda>" (X.env.qual ++ "<lambda>") params body scope (cloFrom X.env.cells scope.names []) pm c2 ctv) := I1.base.keep f _ hf nf fr fun z => nomatch (show f ∈ ([] : List Addr) from z)
  have un : Un (frs X.stack) [] H HZ s.heap s1.heap := I1.base
  obtain ⟨⟨oc, vs, t, hoc, hdc, hvc⟩, _, _⟩ := I1.hok c2 _ hc
  have rc : codeAny (model X.prog X.w) (X.A.deeper (envOfC qg sg s.heap.objs.size g cdg)) (.call (.ref f) ⟨[], []⟩) (CR (CXN X.prog X.w) (envOfC qg sg s.heap.objs.size g cdg :: X.stack) X.prog X.w HZ s1 Q E) s1 := by
    refine PySem.W.kla_callFunE hr.depth g1 rfl L.co L.gen rfl ⟨c2, oc, vs, t, rfl, hoc, hdc, hvc⟩ ?_
    rw [hbind]
    refine wpAny_pure (wpAny_newFunctionEnv (fun y hy => (L.own y hy).2) (fun y hy => absurd hy (by simp)) (fun h2 hns hsb => ⟨I1.nolimit.fresh _ hsb, ?_⟩) L.kind)
    have kp : ∀ b o, s1.heap.get? b = some o → h2.get? b = some o := fun b o e => hsb.extBut b o (Nat.ne_of_lt (Heap.lt_size e)) (Heap.get?_push_of_some _ e)
    have J0 : Inv (lamCx X (X.A.deeper (envOfC qg sg s.heap.objs.size g cdg)) (envOfC qg sg s.heap.objs.size g cdg :: X.stack) s1 HZ E scope f c2) [] σ HZ { s1 with heap := h2, toks := s1.toks + ([] : List (Str × Value)).length } := lam_start2 I L I1.env0 hr.hd un hns kp
    have J : Inv (lamCxN X (X.A.deeper (envOfC qg sg s.heap.objs.size g cdg)) (envOfC qg sg s.heap.objs.size g cdg :: X.stack) s1 HZ E scope f c2) [] σ HZ { s1 with heap := h2, toks := s1.toks + ([] : List (Str × Value)).length } := J0.toTry _
    refine (show codeAny _ _ (.expr body (lamEnv X scope s1.heap.objs.size f c2)) _ _ from PySem.W.kla_codeExpr (wpAny_mono ((hbody _ _ s1 HZ (hr.deeper _)).run [] _ _ HZ Q J ht) (fun v s2 hq => ?_) fun _ _ hq => hq))
    obtain ⟨v2, H2, J2, rv, q⟩ := hq
    exact ⟨v2, H2, J2.os, J2.bare, J2.base, J2.hok, rv, q⟩
  refine PySem.W.callWith_F0 ⟨_, _, _, _, g1⟩ (wpAny_call (codeAny_mono rc fun r s2 hq => ?_))
  cases r with
  | error e => exact tk e s2 (L2N.XE.of_call I1 (fun cls d H3 h => hW cls d σZ H3 I1.len h) hq)
  | ok fl =>
    cases fl with
    | ret u => exact I1.after hq
    | next => exact False.elim hq
    | brk => exact False.elim hq
    | cont => exact False.elim hq
end
/-- the def that calls what it got; TT: what it makes of the lambda's reading -/
def GivesN (X : Cx) (k : Nat) (Ng : List Str) (x : Str) (sg : Scope) (g : Addr) (bg : List Stmt) (a : Str) (q : Str) (TT : (XK → Hp → VK → Prop) → Hp → VK → Prop) : Prop :=
  ∀ (cdg : Value) (f c2 : Addr) (s : Shared) (H : Hp) (Q : VK) (tl : XK → Hp → VK → Prop), Room k (X.A.deeper (envOfC x sg s.heap.objs.size g cdg)) →
    (∀ (W : WX) (pn : List (Addr × Obj)) (xe : Value → Shared → Prop) (E : XK) (p1 p2 : Pos), L2N.Takes ((cxOf (CXN X.prog X.w) X.prog X.w X.K X.mg X.base Ng x sg g cdg X.A X.stack s H E0).tr pn xe) W → (∀ cls d (σ2 : L2.St) H2, σ2.length = Ng.length → E cls d H2 → W cls d σ2 H2) →
      PE ((cxOf (CXN X.prog X.w) X.prog X.w X.K X.mg X.base Ng x sg g cdg X.A X.stack s H E0).tr pn xe) (.Call (.Name a p1) [] [] p2) (fun σZ HZ Q => σZ[0]? = some (some (.ref f)) ∧ HZ c2 = some (CodeO c2 q) ∧ tl E HZ Q)) →
    H c2 = some (CodeO c2 q) → TT tl H Q → ∃ t, PSs (cxOf (CXN X.prog X.w) X.prog X.w X.K X.mg X.base Ng x sg g cdg X.A X.stack s H E0) bg t ∧ t { nx := fun _ H2 => Q .non H2, rt := Q } (L2.start Ng [.ref f]) H
section
variable {X : Cx}
/-- x(lambda: body) -/
theorem pe_lamN {T : List (Addr × Str)} {TT : (XK → Hp → VK → Prop) → Hp → VK → Prop} {x a : Str} {st : Stmt} {fd : FuncData} {c P : Addr} {k : Nat} {Ng : List Str} {params : Arguments} {body : Expr} {scope : Scope} {t : XK → TE} {p lpos pos : Pos}
    (hm : X.mg x = some (.ref (He.ga X.K x))) (F : FunD X.K x x (defArgs st) (defBody st) (defScope st) [] [] (He.ga X.K x) fd) (hb : BindAll x st [a]) (Sg : FnScope Ng [a] (defScope st)) (hNg : Ng[0]? = some a) (hva : Vis (defScope st) a)
    (hG : GivesN X (k + 1) Ng x (defScope st) (He.ga X.K x) (defBody st) a (X.env.qual ++ "<lambda>") TT)
    (TB : TabB X.base X.mg c P) (hcode : X.env.code = .ref c) (hmT : (P, X.env.qual ++ "<lambda>") ∈ T) (hu : ∀ p ∈ T, p.1 = P → p.2 = X.env.qual ++ "<lambda>") (hr : Room (k + 2) X.A) (L : LamS X.env.scope scope) (hdef : defaultsOf params X.env = ([], []))
    (hbind : ∀ (q : Str) (cl : List (Str × Addr)) (pm cv ctv : Value), bindArgs (PySem.W.kla_fn "<lambda>" q params body scope cl pm cv ctv) ⟨[], []⟩ = pure [])
    (hbody : ∀ (A : Around) (outer : List Env) (s : Shared) (H : Hp) (E : XK) (f c2 : Addr), Room k (A.deeper (lamEnv X scope s.heap.objs.size f c2)) → PE (lamCxN X A outer s H E scope f c2) body (t E))
    (hg : Gl X x := by rfl) (hdb : (x == ("__debug__" : Str)) = false := by decide) (hd : (a == ("__debug__" : Str)) = false := by decide) (hcd : (a == ("__classdict__" : Str)) = false := by decide) :
    PE X (.Call (.Name x p) [.Lambda params body scope lpos] [] pos) (tLam T TT t) := by
  refine ⟨fun pins s σ H Q I h => ?_⟩
  obtain ⟨hT, h⟩ := h
  obtain ⟨oc, od, dV, kV, doc, pm, an, cdv, ct, osl, rfl, lk, hcg, _⟩ := F.ex
  refine wpAny_Call_Name_kw (ld_glob I hg hm (PySem.W.callWith_K (h₀ := X.base) I.ok.mod.kin F.kp ?_ (by rfl) (by rfl)) hdb)
  refine (show wpAny _ _ (spliced ((false, eval (.Lambda params body scope lpos) X.env) :: backTo pos (starEach [] X.env))) _ _ s from Calls.spliced_cons (lam_make2 I TB hcode hmT hu hT hdef (L.has I.ok) fun f c2 pm2 ctv H1 s1 I1 eN T1 hf nf fr hco => ?_))
  refine Calls.spliced_nil ⟨I1.kIn, ?_⟩
  have rc : codeAny (model X.prog X.w) X.A (.call (.ref (He.ga X.K x)) ⟨[.ref f], []⟩) (CR (CXN X.prog X.w) X.stack X.prog X.w H1 s1 Q E0) s1 :=
    run_ofS (N := Ng) (ps := [a]) (us := [.ref f]) (vs := [.ref f]) lk hcg Sg hr I1.env0 ((F.bindsA hb) s1 [.ref f] rfl) (.cons rfl .nil) rfl fun hr2 =>
      hG cdv f c2 s1 H1 Q (fun E H2 Q2 => t E σ H2 Q2) hr2 (fun W pn xe E p1 p2 tk hW => pe_actN (i := 0) I1 L hf nf fr (hbind _ _ _ _ _) tk hW hr2 (fun A outer s H hr3 => hbody A outer s H E f c2 hr3) hNg hva hd hcd) hco (h H1 eN T1)
  refine wpAny_call (codeAny_mono rc fun r s2 hq => ?_)
  cases r with
  | error e =>
    obtain ⟨_, _, _, _, _, _, _, _, _, _, _, _, z⟩ := hq
    exact z.elim
  | ok fl =>
    cases fl with
    | ret u => exact I1.after hq
    | next => exact False.elim hq
    | brk => exact False.elim hq
    | cont => exact False.elim hq
end
end RG
/-! ### refusals told: what _law_word and _law_told promise -/
namespace RG
open PySem PySem.Spec PyProof.Rows L2 HotX L2H LamX
def wnames : List Str := ["BadUser", "BadDeal", "BadCondition", "BadRules", "BadName", "BadNumber", "Known", "Needed", "Ring", "Full", "BadDay", "Nothing", "BadText"]
def excCB (K : PySem.W.Frag) (D : Addr) : Bool := decide (PySem.W.findIn K (.ref D) "__getattribute__" = some (some (.builtin "BaseException.__getattribute__"))) && (decide (PySem.W.findIn K (.ref D) "__getattr__" = some none) && (decide (PySem.W.subIn K (.ref D) (.type "BaseException") = some true) && (PySem.W.hasDictIn K D &&
  (decide (PySem.W.findIn K (.ref D) "__class__" = some (some (.builtin "object.__class__"))) && (decide (PySem.W.specialIn K (.builtin "object.__class__") "__get__" = some (some (.builtin "getset_descriptor.__get__"))) && (decide (PySem.W.takesIn K (.builtin "object.__class__") = some true) && decide (PySem.W.mroIn K D (.type "object") = some true)))))))
theorem excCB_ok {K : PySem.W.Frag} {D : Addr} (h : excCB K D = true) : ExcC K D := by
  simp only [excCB, Bool.and_eq_true, decide_eq_true_eq] at h
  obtain ⟨h1, h2, h3, h4, h5, h6, h7, h8⟩ := h
  exact ⟨h1, h2, h3, h4, h5, h6, h7, h8⟩
def wordB (K : PySem.W.Frag) : Bool := (wnames.all fun c => excCB K (He.ga K c) && (decide (PySem.W.kitOne K (.ref (He.ga K c)) (.type "ValueError") = some true) && (decide (PySem.W.exmOne K (.ref (He.ga K c)) (.ref (He.ga K "Needed")) = some (decide (c = "Needed"))) && (decide (PySem.W.exmOne K (.ref (He.ga K c)) (.ref (He.ga K "GateError")) = some true) &&
  wnames.all fun b => decide (PySem.W.kitOne K (.ref (He.ga K c)) (.ref (He.ga K b)) = some (decide (c = b))))))) && (xfB K (He.ga K "Needed") && decide (PySem.W.findIn K (.ref (He.ga K "Needed")) "by" = some none))
/-- what the refusals' classes say of one another -/
structure WordOk (K : PySem.W.Frag) : Prop where
  exc : ∀ c ∈ wnames, ExcC K (He.ga K c)
  val : ∀ c ∈ wnames, PySem.W.kitOne K (.ref (He.ga K c)) (.type "ValueError") = some true
  need : ∀ c ∈ wnames, PySem.W.exmOne K (.ref (He.ga K c)) (.ref (He.ga K "Needed")) = some (decide (c = "Needed"))
  gate : ∀ c ∈ wnames, PySem.W.exmOne K (.ref (He.ga K c)) (.ref (He.ga K "GateError")) = some true
  kit : ∀ c ∈ wnames, ∀ b ∈ wnames, PySem.W.kitOne K (.ref (He.ga K c)) (.ref (He.ga K b)) = some (decide (c = b))
  xf : XfC K (He.ga K "Needed")
  noby : PySem.W.findIn K (.ref (He.ga K "Needed")) "by" = some none
theorem wordB_ok {K : PySem.W.Frag} (h : wordB K = true) : WordOk K := by
  simp only [wordB, Bool.and_eq_true, List.all_eq_true, decide_eq_true_eq] at h
  obtain ⟨h1, h2, h3⟩ := h
  exact ⟨fun c hc => excCB_ok (h1 c hc).1, fun c hc => (h1 c hc).2.1, fun c hc => (h1 c hc).2.2.1, fun c hc => (h1 c hc).2.2.2.1, fun c hc => (h1 c hc).2.2.2.2, xfB_ok h2, h3⟩
/-- the word of a refusal: p the handled exception -/
def spWord (K : PySem.W.Frag) (p : Addr × Obj) : Sp := fun vs H Q _ => vs = [.ref p.1] ∧ ∃ (c : Str) (d : Option Addr), c ∈ wnames ∧ Zc (.ref (He.ga K c)) d p.2 ∧ (∃ ws, p.2.data = .fields ws) ∧ (∀ dx, d = some dx → ∃ fs, H dx = some (.xd fs)) ∧
  ∀ t H2, Same H H2 → H t = none → H2 t = some (.tup [.str "refused", .str c]) → Q (.ref t) H2
section
variable {K : PySem.W.Frag} {H : Hp} {Q : VK} {σ : L2.St}
theorem w_isP {D a : Addr} {d : Option Addr} {b : Str} {r : Bool} (e : PySem.W.kitOne K (.ref D) (.ref (He.ga K b)) = some r) (hd : ∀ dx, d = some dx → ∃ fs, H dx = some (.xd fs)) (h : Q (.bl r) H) : rIsP K D a d [.ref a, .ref (He.ga K b)] H Q :=
  ⟨_, .ref (He.ga K b), r, rfl, fun _ z => z, e, hd, h⟩
theorem w_isPT {D a : Addr} {d : Option Addr} {b : String} {r : Bool} (e : PySem.W.kitOne K (.ref D) (.type b) = some r) (hd : ∀ dx, d = some dx → ∃ fs, H dx = some (.xd fs)) (h : Q (.bl r) H) : rIsP K D a d [.ref a, .ty b] H Q :=
  ⟨_, .type b, r, rfl, fun _ z => z, e, hd, h⟩
theorem xd_s {H2 : Hp} {d : Option Addr} (hd : ∀ dx, d = some dx → ∃ fs, H dx = some (.xd fs)) (s : Same H H2) : ∀ dx, d = some dx → ∃ fs, H2 dx = some (.xd fs) := fun dx e => by
  obtain ⟨fs, h⟩ := hd dx e
  exact ⟨fs, s _ _ h⟩
theorem w_lcH {ti te : TE} {g : TG} {vs : List Nat} (h : ti σ H fun v H1 => ∃ (a : Addr) (xs ys : List V), v = .ref a ∧ H1 a = some (.lst xs) ∧ ys.length = xs.length ∧ xs.length ≤ 1000 ∧
    (∀ (j : Nat) (x y : V) (H2 : Hp), xs[j]? = some x → ys[j]? = some y → g x (wipe σ vs) H2 fun σ2 H3 => wipe σ2 vs = wipe σ vs ∧ te σ2 H3 fun z H4 => z = y ∧ H4 = H2) ∧ ∀ D, H1 D = none → Q (.ref D) (upd H1 D (.lst ys))) : tLcH K ti g te vs σ H Q := h
theorem huH {k : Nat} {A : Around} (hr : RoomH k A) : A.units + 65 < cLine := by
  have := hr.un
  omega
end
abbrev flagsL (c : Str) : List Bool := wnames.map fun b => decide (c = b)
theorem flags_sum : ∀ c ∈ wnames, ((flagsL c).map fun b => if b then (1 : Int) else 0).sum = 1 := by decide +kernel
theorem flags_ix : ∀ c ∈ wnames, ∃ j : Fin 13, wnames[j.val]? = some c ∧ (flagsL c)[j.val]? = some true ∧ ∀ m : Fin 13, m.val < j.val → (flagsL c)[m.val]? = some false := by decide +kernel
theorem dpAll_bools {K : PySem.W.Frag} {H : Hp} : ∀ bs : List Bool, DpAll K H (bs.map V.bl) (bs.map PyData.bool)
  | [] => .nil
  | b :: bs => .cons (.bl b) (dpAll_bools bs)
theorem canLay_bools : ∀ bs : List Bool, PyData.canLayAll0 (bs.map PyData.bool) = true
  | [] => rfl
  | b :: bs => by simp only [List.map_cons, PyData.canLayAll0, PyData.canLay0, canLay_bools bs, Bool.and_self]
theorem depth_bools : ∀ bs : List Bool, PyData.depthAll (bs.map PyData.bool) ≤ 1
  | [] => by simp [PyData.depthAll]
  | b :: bs => by
    have := depth_bools bs
    simp only [List.map_cons, PyData.depthAll, PyData.depth]
    omega
theorem shaped_bools (bs : List Bool) (h : bs.length ≤ 1000) : SeqAt.shaped (.list (bs.map PyData.bool)) = true := by
  have h2 := depth_bools bs
  have h3 : PyData.depth (.list (bs.map PyData.bool)) ≤ 64 := by
    simp only [PyData.depth]
    omega
  simp only [SeqAt.shaped, PyData.canLay0, canLay_bools bs, decide_eq_true h3, Bool.and_self]
/-- what is made of a refusal that a deed lets out -/
def toldE (K : PySem.W.Frag) (Q : VK) : XK := fun cls d H => ∃ c ∈ wnames, cls = .ref (He.ga K c) ∧ ((c ≠ "Needed" ∧ d = none ∧ ∀ t H2, Same H H2 → H t = none → H2 t = some (.tup [.str "refused", .str c]) → Q (.ref t) H2) ∨
  (c = "Needed" ∧ ∃ dx v, d = some dx ∧ H dx = some (.xd [("by", v)]) ∧ ∀ t H2, Same H H2 → H t = none → H2 t = some (.tup [.str "refused", .str "Needed", v]) → Q (.ref t) H2))
def toldT (K : PySem.W.Frag) : (XK → Hp → VK → Prop) → Hp → VK → Prop := fun tl H Q => tl (toldE K Q) H Q
/-- _law_word(e) in a suite -/
def tWord (K : PySem.W.Frag) (a : Addr) (cls : Value) (d : Option Addr) : TE := fun σ H Q => σ[1]? = some (some (.ref a)) ∧ ∃ c ∈ wnames, cls = .ref (He.ga K c) ∧ (∀ dx, d = some dx → ∃ fs, H dx = some (.xd fs)) ∧ ∀ t H2, Same H H2 → H t = none → H2 t = some (.tup [.str "refused", .str c]) → Q (.ref t) H2
theorem pe_word {X : Cx} {a : Addr} {oe : Obj} {cls : Value} {d : Option Addr} {pn : List (Addr × Obj)} {fd : FuncData} {k : Nat} {q p5 pos : Pos} (F : FnW X.prog X.w X.K X.mg X.base k (He.ga X.K "_law_word") fd ["e"] (spWord X.K)) (b : BindsE fd ["e"]) (kp : PySem.W.keepIn X.K (.ref (He.ga X.K "_law_word")) = true) (hm : X.mg "_law_word" = some (.ref (He.ga X.K "_law_word")))
    (hr : Room k X.A) (hz : L2N.Zn cls d oe) (hf : ∃ vs, oe.data = .fields vs) (he : PE (X.suite a ((a, oe) :: pn)) (.Name "e" q) (tVar 1)) (hg : Gl X "_law_word" := by rfl) (hst : starEach [.Name "e" q] X.env = (false, eval (.Name "e" q) X.env) :: starEach [] X.env := by rfl) :
    PE (X.suite a ((a, oe) :: pn)) (.Call (.Name "_law_word" p5) [.Name "e" q] [] pos) (tWord X.K a cls d) := by
  refine ⟨fun pins s σ H Q I h => ?_⟩
  obtain ⟨h1, c, hc, e, hd, q2⟩ := h
  obtain ⟨ws, hw⟩ := hf
  have hot : Hot1 (X.suite a ((a, oe) :: pn)).A (a, oe) := ⟨rfl, ws, hw, hz.2.2 ws hw⟩
  have P := pe_callW (X := X.suite a ((a, oe) :: pn)) (p := (a, oe)) (q := p5) (pos := pos) F b kp hm ⟨hr.dp, hr.un⟩ hot List.mem_cons_self (pa_cons he pa_nil) hg (by decide) hst (by rfl)
  exact P.run pins s σ H Q I ⟨.ref a, h1, rfl, c, d, hc, by rw [← e]; exact hz.zc, ⟨ws, hw⟩, hd, q2⟩
/-! heaps between told deeds: tables grow -/
/-- all but the dice at a and the tables stays -/
structure ButT (T : List (Addr × Str)) (a : Addr) (H H2 : Hp) : Prop where
  d0 : Dice H a
  d1 : Dice H2 a
  kp : ∀ b o, H b = some o → b ≠ a → (∀ ps, o ≠ .tbl ps) → H2 b = some o
  tb : Tabs T H → Tabs T H2
section
variable {T : List (Addr × Str)} {a : Addr} {H H1 H2 : Hp} {K : PySem.W.Frag}
theorem ButT.refl (d : Dice H a) : ButT T a H H := ⟨d, d, fun _ _ h _ _ => h, fun h => h⟩
theorem ButT.trans (b : ButT T a H H1) (c : ButT T a H1 H2) : ButT T a H H2 := ⟨b.d0, c.d1, fun x o h n m => c.kp x o (b.kp x o h n m) n m, fun h => c.tb (b.tb h)⟩
theorem ext_tabs (s : Same H H1) (h : Tabs T H) : Tabs T H1 := h.ext s
theorem But.tabs (b : But a H H1) (h : Tabs T H) : Tabs T H1 := fun p hp => by
  obtain ⟨x, k, hd⟩ := b.d0
  obtain ⟨ps, h1, h2, h3⟩ := h p hp
  have ne : ∀ z o, H z = some o → (∀ xs, o ≠ .lst xs) → z ≠ a := fun z o e n q => by
    rw [q, hd] at e
    cases e
    exact n _ rfl
  refine ⟨ps, b.kp _ _ h1 (ne _ _ h1 (fun xs z => by cases z)), h2, fun pos cv hc => ?_⟩
  obtain ⟨c, e1, e2⟩ := h3 pos cv hc
  exact ⟨c, e1, b.kp _ _ e2 (ne _ _ e2 (fun xs z => by unfold CodeO at z; cases z))⟩
theorem But.toT (b : But a H H1) : ButT T a H H1 := ⟨b.d0, b.d1, fun x o h n _ => b.kp x o h n, b.tabs⟩
theorem ButT.same (b : ButT T a H H1) (s : Same H1 H2) : ButT T a H H2 := ⟨b.d0, b.d1.same s, fun x o h n m => s _ _ (b.kp x o h n m), fun h => ext_tabs s (b.tb h)⟩
theorem Dice.extN (d : Dice H a) (e : ExtN H H1) : Dice H1 a := by
  obtain ⟨x, k, h⟩ := d
  exact ⟨x, k, e _ _ h fun ps z => by cases z⟩
theorem ButT.extN (b : ButT T a H H1) (e : ExtN H1 H2) (t : Tabs T H2) : ButT T a H H2 := ⟨b.d0, b.d1.extN e, fun x o h n m => e _ _ (b.kp x o h n m) m, fun _ => t⟩
theorem tup_nt {b : Addr} {xs : List V} {H H1 : Hp} (e : ∀ b o, H b = some o → (∀ ps, o ≠ .tbl ps) → (∀ ys, o ≠ .lst ys) → H1 b = some o) (h : SqT K H b xs) : SqT K H1 b xs := by
  rcases h with (h | ⟨o, h⟩) | h
  · exact .inl (.inl (e _ _ h (fun ps z => by cases z) fun ys z => by cases z))
  · exact .inl (.inr ⟨o, e _ _ h (fun ps z => by cases z) fun ys z => by cases z⟩)
  · exact .inr h
mutual
theorem dp_nt {H H1 : Hp} (e : ∀ b o, H b = some o → (∀ ps, o ≠ .tbl ps) → (∀ ys, o ≠ .lst ys) → H1 b = some o) : ∀ {v : V} {d : PyData}, imm d = true → Dp K H v d → Dp K H1 v d
  | _, _, _, .non => .non
  | _, _, _, .bl b => .bl b
  | _, _, _, .int i => .int i
  | _, _, _, .str x => .str x
  | _, _, i, .lst h a => by simp [imm] at i
  | _, _, i, .tup h a => .tup (tup_nt e h) (dps_nt e (by simpa [imm] using i) a)
theorem dps_nt {H H1 : Hp} (e : ∀ b o, H b = some o → (∀ ps, o ≠ .tbl ps) → (∀ ys, o ≠ .lst ys) → H1 b = some o) : ∀ {vs : List V} {ds : List PyData}, immAll ds = true → DpAll K H vs ds → DpAll K H1 vs ds
  | _, _, _, .nil => .nil
  | _, _, i, .cons a b => by
    simp [immAll] at i
    exact .cons (dp_nt e i.1 a) (dps_nt e i.2 b)
end
theorem ButT.nt (b : ButT T a H H1) : ∀ x o, H x = some o → (∀ ps, o ≠ .tbl ps) → (∀ ys, o ≠ .lst ys) → H1 x = some o := fun x o h m n => b.kp x o h (fun z => by
  obtain ⟨y, k, hd⟩ := b.d0
  rw [z, hd] at h
  cases h
  exact n _ rfl) m
theorem ButT.tup {b : Addr} {xs : List V} (s : ButT T a H H1) (h : SqT K H b xs) : SqT K H1 b xs := tup_nt s.nt h
theorem ButT.dp {v : V} {d : PyData} (s : ButT T a H H1) (i : imm d = true) (h : Dp K H v d) : Dp K H1 v d := dp_nt s.nt i h
theorem ButT.dps {vs : List V} {ds : List PyData} (s : ButT T a H H1) (i : immAll ds = true) (h : DpAll K H vs ds) : DpAll K H1 vs ds := dps_nt s.nt i h
theorem ButT.lst {b : Addr} {xs : List V} (s : ButT T a H H1) (n : b ≠ a) (h : H b = some (.lst xs)) : H1 b = some (.lst xs) := s.kp b _ h n fun ps z => by cases z
end
mutual
theorem dp_eN {K : PySem.W.Frag} {H H1 : Hp} (e : ExtN H H1) : ∀ {v : V} {d : PyData}, Dp K H v d → Dp K H1 v d
  | _, _, .non => .non
  | _, _, .bl b => .bl b
  | _, _, .int i => .int i
  | _, _, .str x => .str x
  | _, _, .lst h a => .lst (lst_eN e h) (dps_eN e a)
  | _, _, .tup h a => .tup (tup_nt (fun b o h m _ => e b o h m) h) (dps_eN e a)
theorem dps_eN {K : PySem.W.Frag} {H H1 : Hp} (e : ExtN H H1) : ∀ {vs : List V} {ds : List PyData}, DpAll K H vs ds → DpAll K H1 vs ds
  | _, _, .nil => .nil
  | _, _, .cons a b => .cons (dp_eN e a) (dps_eN e b)
theorem lst_eN {K : PySem.W.Frag} {H H1 : Hp} (e : ExtN H H1) {b : Addr} {xs : List V} (h : SqL K H b xs) : SqL K H1 b xs := by
  rcases h with (h | ⟨o, h⟩) | h
  · exact .inl (.inl (e _ _ h fun ps z => by cases z))
  · exact .inl (.inr ⟨o, e _ _ h fun ps z => by cases z⟩)
  · exact .inr h
end
/-- the rounds, tables growing -/
theorem rounds_goT {T : List (Addr × Str)} {K : PySem.W.Frag} {a L : Addr} {ds : List Addr} {tb : TS} {D : Ends} {H : Hp} {n : Nat} {w0 : List (Option V)} (hw : w0.length = n) (hT : Tabs T H) (hL : H L = some (.lst (ds.map V.ref))) (hds : ∀ d ∈ ds, d ≠ L ∧ Dice H d) (hd : ∀ σ' H', D.nx σ' H')
    (hbody : ∀ (w : List (Option V)) (H' : Hp) (d : Addr) (N : L2.St → Hp → Prop), w.length = n → Tabs T H' → Dice H' d → (∀ (w2 : List (Option V)) (H2 : Hp), w2.length = n → ButT T d H' H2 → N (some (.ref a) :: w2) H2) →
      tb { D with nx := N, ct := N, bk := D.nx } ((some (.ref a) :: w).set 1 (some (.ref d))) H') :
    ForGoal (Itl K L) (gName 1) tb D (some (.ref a) :: w0) H := by
  refine for_go (walk_list (K := K) (a := L) (xs := ds.map V.ref)) (fun i σ H' => (∃ w : List (Option V), w.length = n ∧ σ = some (.ref a) :: w) ∧ H' L = some (.lst (ds.map V.ref)) ∧ (∀ d ∈ ds, Dice H' d) ∧ Tabs T H') ⟨⟨w0, hw, rfl⟩, hL, fun d h => (hds d h).2, hT⟩ (fun i σ H' _ h => lstOf h.2.1) ?_ (fun σ H' _ => hd σ H')
  rintro i x σ H' H'' hi ⟨⟨w, hw', rfl⟩, hL', hds', hT'⟩ ⟨rfl, hx⟩
  rw [List.getElem?_map] at hx
  obtain ⟨d, hd1, rfl⟩ := Option.map_eq_some_iff.mp hx
  have hm := List.mem_of_getElem? hd1
  refine hbody w H'' d _ hw' hT' (hds' d hm) fun w2 H2 hw2 b => ⟨⟨w2, hw2, rfl⟩, b.lst ((hds d hm).1).symm hL', fun e he => ?_, b.tb hT'⟩
  by_cases hed : e = d
  · subst hed
    exact b.d1
  · obtain ⟨x, k, hx⟩ := hds' e he
    exact ⟨x, k, b.lst hed hx⟩
/-! defs that make lambdas -/
def lamQ (x : Str) : Str := x ++ ".<locals>." ++ "<lambda>"
/-- the tables of the defs that make lambdas -/
def tabL (K : PySem.W.Frag) (tf : List Str) : List (Addr × Str) := tf.map fun x => ((He.cT K (x, none)).2, lamQ x)
structure TLs (base : Heap) (mg : Str → Option Value) (K : PySem.W.Frag) (tf : List Str) : Prop where
  tb : ∀ x ∈ tf, TabB base mg (He.cT K (x, none)).1 (He.cT K (x, none)).2
  ap : ∀ x ∈ tf, ∀ y ∈ tf, (He.cT K (y, none)).2 = (He.cT K (x, none)).2 → y = x
def apartB (K : PySem.W.Frag) (tf : List Str) : Bool := tf.all fun x => tf.all fun y => decide (y = x) || !decide ((He.cT K (y, none)).2 = (He.cT K (x, none)).2)
theorem apartB_ok {K : PySem.W.Frag} {tf : List Str} (h : apartB K tf = true) : ∀ x ∈ tf, ∀ y ∈ tf, (He.cT K (y, none)).2 = (He.cT K (x, none)).2 → y = x := fun x hx y hy e => by
  simp only [apartB, List.all_eq_true, Bool.or_eq_true, decide_eq_true_eq, Bool.not_eq_true', decide_eq_false_iff_not] at h
  rcases h x hx y hy with z | z
  · exact z
  · exact absurd e z
def spLawT (K : PySem.W.Frag) (tf : List Str) : Sp := fun vs H Q _ => ∃ (a : Addr) (ns : List Int), vs = [.ref a] ∧ SqL K H a (ns.map V.int) ∧ ns.length ≤ 63 ∧ Tabs (tabL K tf) H ∧ ∀ H', Q (.bl true) H'
section
variable {P : Program} {w : World} {K : PySem.W.Frag} {mg : Str → Option Value} {base : Heap}
theorem Ok.mkL {x : Str} {st : Stmt} {N ps : List Str} {k : Nat} {sp : Sp} (G : mg x = some (.ref (He.ga K x))) (F : FnAt K x st) (b : BindAll x st ps) (S : FnScope N ps (defScope st)) (len : ∀ vs H Q E, sp vs H Q E → vs.length = ps.length)
    (body : ∀ (A : Around) (outer : List Env) (s : Shared) (H : Hp) (vs : List V) (Q : VK) (E : XK), Room k (A.deeper (envOfC x (defScope st) s.heap.objs.size (He.ga K x) (.ref (He.cT K (x, none)).1))) → sp vs H Q E →
      ∃ t, PSs (cxOf (CXN P w) P w K mg base N x (defScope st) (He.ga K x) (.ref (He.cT K (x, none)).1) A outer s H E) (defBody st) t ∧ t { nx := fun _ H' => Q .non H', rt := Q } (start N vs) H) : Ok P w K mg base (k + 1) x ps sp := by
  obtain ⟨fd, F⟩ := F
  have hb := F.bindsA b
  have kp := F.kp
  obtain ⟨oc, od, dV, kV, doc, pm, an, cdv, ct, osl, rfl, lk, hcd, _⟩ := F.ex
  have e : fdAt K (He.ga K x) = some (PySem.W.fnOf x x (defArgs st) (defBody st) (defScope st) dV kV doc pm an cdv ct) := by
    unfold fdAt
    rw [lk]
  obtain ⟨c, rfl⟩ : ∃ c, cdv = .ref c := by
    cases cdv with
    | ref c => exact ⟨c, rfl⟩
    | _ => cases hcd
  have ec : (He.cT K (x, none)).1 = c := He.codeOf_eq (p := (x, none)) lk rfl
  rw [ec] at body
  exact ⟨G, kp, _, e, hb, fn_of lk hcd S len body⟩
end
end RG
/-! ### data that a text writes down: shapes, evaluation -/
namespace RG
open PySem PySem.Spec PyProof.Rows L2 LamX
/-- fit to be compared and walked -/
structure Gd (n : Nat) (d : PyData) : Prop where
  lay : d.canLay0 = true
  dep : d.depth ≤ n
  nar : narrow d = true
structure GdAll (n : Nat) (ds : List PyData) : Prop where
  lay : PyData.canLayAll0 ds = true
  dep : PyData.depthAll ds ≤ n
  nar : narrowAll ds = true
theorem Gd.mono {n m : Nat} {d : PyData} (g : Gd n d) (h : n ≤ m) : Gd m d := ⟨g.lay, Nat.le_trans g.dep h, g.nar⟩
theorem gd_non {n : Nat} : Gd n .none := ⟨rfl, Nat.zero_le _, rfl⟩
theorem gd_int {n : Nat} {i : Int} : Gd n (.int i) := ⟨rfl, Nat.zero_le _, rfl⟩
theorem gd_bool {n : Nat} {b : Bool} : Gd n (.bool b) := ⟨rfl, Nat.zero_le _, rfl⟩
theorem gd_str {n : Nat} {z : Str} (h : PyData.canLay0 (.str z) = true) : Gd n (.str z) := ⟨h, Nat.zero_le _, rfl⟩
theorem gds_nil {n : Nat} : GdAll n [] := ⟨rfl, Nat.zero_le _, rfl⟩
theorem gds_cons {n : Nat} {d : PyData} {ds : List PyData} (a : Gd n d) (b : GdAll n ds) : GdAll n (d :: ds) := ⟨by simp only [PyData.canLayAll0, a.lay, b.lay, Bool.and_self], by simp only [PyData.depthAll]; have := a.dep; have := b.dep; omega, by simp only [narrowAll, a.nar, b.nar, Bool.and_self]⟩
theorem gds_mem {n : Nat} {ds : List PyData} (h : ∀ d ∈ ds, Gd n d) : GdAll n ds := ⟨canLayAll_mem fun d hd => (h d hd).lay, depthAll_le fun d hd => (h d hd).dep, narrowAll_of fun d hd => (h d hd).nar⟩
theorem gd_tup {n : Nat} {ds : List PyData} (h : GdAll n ds) (l : ds.length ≤ 1000) : Gd (n + 1) (.tuple ds) := ⟨h.lay, Nat.succ_le_succ h.dep, by simp only [narrow, h.nar, decide_eq_true l, Bool.and_self]⟩
theorem gd_list {n : Nat} {ds : List PyData} (h : GdAll n ds) (l : ds.length ≤ 1000) : Gd (n + 1) (.list ds) := ⟨h.lay, Nat.succ_le_succ h.dep, by simp only [narrow, h.nar, decide_eq_true l, Bool.and_self]⟩
theorem Gd.all {n : Nat} {ds : List PyData} (g : Gd (n + 1) (.tuple ds)) : GdAll n ds := ⟨g.lay, Nat.le_of_succ_le_succ g.dep, by have := g.nar; simp only [narrow, Bool.and_eq_true] at this; exact this.2⟩
theorem Gd.len {n : Nat} {ds : List PyData} (g : Gd n (.tuple ds)) : ds.length ≤ 1000 := by
  have := g.nar
  simp only [narrow, Bool.and_eq_true, decide_eq_true_eq] at this
  exact this.1
theorem Gd.sh {d : PyData} (g : Gd 64 d) : SeqAt.shaped d = true := by simp only [SeqAt.shaped, g.lay, decide_eq_true g.dep, Bool.and_self]
theorem Gd.ok {d : PyData} (g : Gd 64 d) : okD d = true := by simp only [okD, g.sh, g.nar, Bool.and_self]
theorem all_nil {P : PyData → Prop} : ∀ e ∈ ([] : List PyData), P e := fun _ h => nomatch h
theorem all_cons {P : PyData → Prop} {d : PyData} {ds : List PyData} (h : P d) (t : ∀ e ∈ ds, P e) : ∀ e ∈ d :: ds, P e := fun e he => by
  rcases List.mem_cons.mp he with rfl | he
  · exact h
  · exact t e he
theorem all_consT {P : PyData → Prop} {d : PyData} {ds : List PyData} (t : ∀ e ∈ ds, P e) (h : P d) : ∀ e ∈ d :: ds, P e := all_cons h t
theorem all_app {P : PyData → Prop} {ds es : List PyData} (h : ∀ e ∈ ds, P e) (t : ∀ e ∈ es, P e) : ∀ e ∈ ds ++ es, P e := fun e he => (List.mem_append.mp he).elim (h e) (t e)
theorem all_dp {K : PySem.W.Frag} {H : Hp} {vs : List V} {ds : List PyData} (P : PyData → Prop) (_ : DpAll K H vs ds) (h : ∀ e ∈ ds, P e) : ∀ e ∈ ds, P e := h
theorem all_at {P : PyData → Prop} {ds : List PyData} {i : Nat} {d : PyData} (h : ∀ e ∈ ds, P e) (e : ds[i]? = some d) : P d := h d (List.mem_of_getElem? e)
theorem len_ok {n : Nat} (h : decide (n ≤ 1000) = true) : n ≤ 1000 := of_decide_eq_true h
theorem eqvAll_self : ∀ {l : List PyData}, (∀ d ∈ l, PyData.eqv d d = true) → PyData.eqvAll l l = true
  | [], _ => rfl
  | d :: l, h => by
    have h2 : PyData.eqvAll l l = true := eqvAll_self fun x hx => h x (List.mem_cons_of_mem _ hx)
    simp only [PyData.eqvAll, h d (by simp), h2, Bool.and_self]
theorem eqv_listSelf {l : List PyData} (h : ∀ d ∈ l, PyData.eqv d d = true) : PyData.eqv (.list l) (.list l) = true := by
  simp only [PyData.eqv]
  exact eqvAll_self h
theorem eqv_intsSelf (ns : List Int) : PyData.eqv (.list (ns.map PyData.int)) (.list (ns.map PyData.int)) = true := eqv_listSelf fun d hd => by
  obtain ⟨n, _, rfl⟩ := List.mem_map.mp hd
  simp [PyData.eqv]
/-- evaluated to data, from any heap beyond H0 -/
def EvD (K : PySem.W.Frag) (te : TE) (σ : L2.St) (H0 : Hp) (d : PyData) : Prop := ∀ H, Same H0 H → ∀ Q : VK, (∀ v H2, Same H H2 → Dp K H2 v d → Q v H2) → te σ H Q
def EvDs (K : PySem.W.Frag) (ts : TA) (σ : L2.St) (H0 : Hp) (ds : List PyData) : Prop := ∀ H, Same H0 H → ∀ Q : List V → Hp → Prop, (∀ vs H2, Same H H2 → DpAll K H2 vs ds → Q vs H2) → ts σ H Q
/-- evaluated to a new list of data -/
def EvL (K : PySem.W.Frag) (te : TE) (σ : L2.St) (H0 : Hp) (ds : List PyData) : Prop := ∀ H, Same H0 H → ∀ Q : VK, (∀ p vs H2, Same H H2 → H p = none → H2 p = some (.lst vs) → DpAll K H2 vs ds → Q (.ref p) H2) → te σ H Q
section
variable {K : PySem.W.Frag} {σ : L2.St} {H0 : Hp} {d : PyData} {ds es : List PyData} {te tf : TE} {ts : TA}
theorem evd_non : EvD K (tC .non) σ H0 .none := fun H _ Q q => q _ H (Same.refl _) .non
theorem evd_int {i : Int} : EvD K (tC (.int i)) σ H0 (.int i) := fun H _ Q q => q _ H (Same.refl _) (.int i)
theorem evd_bl {b : Bool} : EvD K (tC (.bl b)) σ H0 (.bool b) := fun H _ Q q => q _ H (Same.refl _) (.bl b)
theorem evd_str {z : Str} : EvD K (tC (.str z)) σ H0 (.str z) := fun H _ Q q => q _ H (Same.refl _) (.str z)
theorem evd_neg {i : Int} : EvD K (tUn (rU fun i => .int (-i)) (tC (.int i))) σ H0 (.int (-i)) := fun H _ Q q => ⟨i, rfl, q _ H (Same.refl _) (.int _)⟩
theorem evd_vint {i : Nat} {n : Int} (e : σ[i]? = some (some (.int n))) : EvD K (tVar i) σ H0 (.int n) := fun H s Q q => ⟨_, e, q _ H (Same.refl _) (.int n)⟩
theorem evd_var {i : Nat} {v : V} (e : σ[i]? = some (some v)) (h : Dp K H0 v d) : EvD K (tVar i) σ H0 d := fun H s Q q => ⟨v, e, q v H (Same.refl _) (dp_s s h)⟩
theorem evds_nil : EvDs K tNil σ H0 [] := fun H _ Q q => q [] H (Same.refl _) .nil
theorem evds_cons (a : EvD K te σ H0 d) (b : EvDs K ts σ H0 ds) : EvDs K (tCons te ts) σ H0 (d :: ds) := fun H s Q q => a H s _ fun v H1 s1 h1 => b H1 (s.trans s1) _ fun vs H2 s2 h2 => q _ H2 (s1.trans s2) (.cons (dp_s s2 h1) h2)
theorem evd_tup (a : EvDs K ts σ H0 ds) (l : ds.length ≤ 1000) : EvD K (tTup ts) σ H0 (.tuple ds) := fun H s Q q => a H s _ fun vs H1 s1 h1 => ⟨sz (by rw [dpAll_len h1]; omega), fun p np => q _ _ (s1.trans (Same.new np)) (.tup (tupOf upd_same) (dps_s (Same.new np) h1))⟩
theorem evd_lst (a : EvDs K ts σ H0 ds) (l : ds.length ≤ 1000) : EvD K (tLst ts) σ H0 (.list ds) := fun H s Q q => a H s _ fun vs H1 s1 h1 => ⟨sz (by rw [dpAll_len h1]; omega), fun p np => q _ _ (s1.trans (Same.new np)) (.lst (lstOf upd_same) (dps_s (Same.new np) h1))⟩
theorem evd_list (a : EvD K te σ H0 (.tuple ds)) : EvD K (tCB (cList K) (tCons te tNil)) σ H0 (.list ds) := fun H s Q q => a H s _ fun v H1 s1 h1 => by
  obtain ⟨b, xs, rfl, hx, hxs⟩ := dp_tuple h1
  exact ⟨b, xs, rfl, .inr hx, fun p np => q _ _ (s1.trans (Same.new np)) (.lst (lstOf upd_same) (dps_s (Same.new np) hxs))⟩
theorem evd_tuple (a : EvL K te σ H0 ds) : EvD K (tCB (cTuple K) (tCons te tNil)) σ H0 (.tuple ds) := fun H s Q q => a H s _ fun p vs H1 s1 _ hp h1 => ⟨p, vs, rfl, .inl ⟨lstOf hp, fun t nt => q _ _ (s1.trans (Same.new nt)) (.tup (tupOf upd_same) (dps_s (Same.new nt) h1))⟩⟩
theorem evl_lst (a : EvDs K ts σ H0 ds) (l : ds.length ≤ 1000) : EvL K (tLst ts) σ H0 ds := fun H s Q q => a H s _ fun vs H1 s1 h1 => ⟨sz (by rw [dpAll_len h1]; omega), fun p np => q p vs _ (s1.trans (Same.new np)) (s1.free np) upd_same (dps_s (Same.new np) h1)⟩
theorem evl_cat {i : Nat} {a : Addr} {xs : List V} (e : σ[i]? = some (some (.ref a))) (ha : H0 a = some (.lst xs)) (hx : DpAll K H0 xs ds) (b : EvL K te σ H0 es) (l : ds.length + es.length ≤ 1000) : EvL K (tOp rCat (tVar i) te) σ H0 (ds ++ es) := fun H s Q q => ⟨.ref a, e, b H s _ fun p vs H1 s1 np hp h1 => by
  refine w_cat (s1 _ _ (s _ _ ha)) hp (by rw [dpAll_len hx, dpAll_len h1]; omega) fun c nc => q c _ _ (s1.trans (Same.new nc)) (s1.free nc) upd_same ?_
  exact dpAll_app (dps_s (Same.new nc) (dps_s s1 (dps_s s hx))) (dps_s (Same.new nc) h1)⟩
theorem evl_catL (a : EvL K te σ H0 ds) (b : EvL K tf σ H0 es) (l : ds.length + es.length ≤ 1000) : EvL K (tOp rCat te tf) σ H0 (ds ++ es) := fun H s Q q => a H s _ fun p vs H1 s1 np hp h1 => b H1 (s.trans s1) _ fun p2 vs2 H2 s2 np2 hp2 h2 => by
  refine w_cat (s2 _ _ hp) hp2 (by rw [dpAll_len h1, dpAll_len h2]; omega) fun c nc => q c _ _ ((s1.trans s2).trans (Same.new nc)) (s1.free (s2.free nc)) upd_same ?_
  exact dpAll_app (dps_s (Same.new nc) (dps_s s2 h1)) (dps_s (Same.new nc) h2)
theorem dpAll_rep {H : Hp} {vs : List V} (h : DpAll K H vs ds) : ∀ n : Nat, DpAll K H (List.replicate n vs).flatten (List.replicate n ds).flatten
  | 0 => .nil
  | n + 1 => by
    rw [List.replicate_succ, List.replicate_succ, List.flatten_cons, List.flatten_cons]
    exact dpAll_app h (dpAll_rep h n)
theorem evl_rep {m : Int} {n : Nat} (hm : m = (n : Int)) (a : EvL K te σ H0 ds) (l : ds.length * n ≤ 1000) (hn : n ≤ 1000) : EvL K (tOp rRep te (tC (.int m))) σ H0 (List.replicate n ds).flatten := fun H s Q q => a H s _ fun p vs H1 s1 np hp h1 => by
  subst hm
  refine ⟨p, (n : Nat), vs, rfl, rfl, hp, by omega, by omega, sz (by rw [Int.toNat_natCast, dpAll_len h1]; omega), fun c nc => ?_⟩
  rw [Int.toNat_natCast]
  refine q c _ _ (s1.trans (Same.new nc)) (s1.free nc) upd_same ?_
  exact dpAll_rep (dps_s (Same.new nc) h1) n
theorem evd_ofL (a : EvL K te σ H0 ds) : EvD K te σ H0 (.list ds) := fun H s Q q => a H s _ fun p vs H1 s1 _ hp h1 => q _ _ s1 (.lst (lstOf hp) h1)
theorem evl_list (a : EvD K te σ H0 (.tuple ds)) : EvL K (tCB (cList K) (tCons te tNil)) σ H0 ds := fun H s Q q => a H s _ fun v H1 s1 h1 => by
  obtain ⟨b, xs, rfl, hx, hxs⟩ := dp_tuple h1
  exact ⟨b, xs, rfl, .inr hx, fun p np => q p xs _ (s1.trans (Same.new np)) (s1.free np) upd_same (dps_s (Same.new np) hxs)⟩
theorem evd_repT {m : Int} {n : Nat} (hm : m = (n : Int)) (a : EvD K te σ H0 (.tuple ds)) (h2 : 2 ≤ n) (hn : n ≤ 1000) (l0 : ds ≠ []) (l : ds.length ≤ 1000) : EvD K (tOp (rRepT K) te (tC (.int m))) σ H0 (.tuple (List.replicate n ds).flatten) := fun H s Q q => a H s _ fun v H1 s1 h1 => by
  subst hm
  obtain ⟨b, xs, rfl, hx, hxs⟩ := dp_tuple h1
  have hl := dpAll_len hxs
  refine ⟨b, (n : Nat), xs, rfl, rfl, hx, fun z => l0 (by rw [z] at hl; exact List.eq_nil_of_length_eq_zero hl.symm), by omega, by omega, by omega, fun p np => ?_⟩
  rw [Int.toNat_natCast]
  exact q _ _ (s1.trans (Same.new np)) (.tup (tupOf upd_same) (dpAll_rep (dps_s (Same.new np) hxs) n))
theorem evd_use {H : Hp} {Q : VK} (a : EvD K te σ H d) (q : ∀ v H2, Same H H2 → Dp K H2 v d → Q v H2) : te σ H Q := a H (Same.refl _) Q q
theorem evl_use {H : Hp} {Q : VK} (a : EvL K te σ H ds) (q : ∀ p vs H2, Same H H2 → H p = none → H2 p = some (.lst vs) → DpAll K H2 vs ds → Q (.ref p) H2) : te σ H Q := a H (Same.refl _) Q q
/-- tables grow, all else stays -/
structure ExT (T : List (Addr × Str)) (H H2 : Hp) : Prop where
  ex : ExtN H H2
  tb : Tabs T H2
theorem ExT.same {T : List (Addr × Str)} {H H1 H2 : Hp} (a : ExT T H H1) (s : Same H1 H2) : ExT T H H2 := ⟨a.ex.trans (ExtN.of s), ext_tabs s a.tb⟩
theorem ExT.trans {T : List (Addr × Str)} {H H1 H2 : Hp} (a : ExT T H H1) (b : ExT T H1 H2) : ExT T H H2 := ⟨a.ex.trans b.ex, b.tb⟩
theorem ExT.refl {T : List (Addr × Str)} {H : Hp} (t : Tabs T H) : ExT T H H := ⟨ExtN.refl H, t⟩
/-- nothing but a table stands there -/
def NwT (H : Hp) (p : Addr) : Prop := ∀ u, H p = some u → ∃ ps, u = .tbl ps
theorem ExT.nw {T : List (Addr × Str)} {H H1 : Hp} {p : Addr} (a : ExT T H H1) (h : H1 p = none) : NwT H p := fun u e => Classical.byContradiction fun z => by
  rw [a.ex p u e fun ps w => z ⟨ps, w⟩] at h
  cases h
/-- a change of a list that H does not know -/
theorem ExT.mut {T : List (Addr × Str)} {H H1 : Hp} {p : Addr} {o : HO} {xs : List V} (a : ExT T H H1) (h : NwT H p) (hp : H1 p = some (.lst xs)) : ExT T H (upd H1 p o) := by
  refine ⟨fun b u e n => by rw [upd_ne (fun z => by obtain ⟨ps, w⟩ := h u (by rw [← z]; exact e); exact n ps w)]; exact a.ex b u e n, fun q hq => ?_⟩
  obtain ⟨ps, h1, h2, h3⟩ := a.tb q hq
  have ne : ∀ z u, H1 z = some u → (∀ xs, u ≠ .lst xs) → z ≠ p := fun z u e n w => by
    rw [w, hp] at e
    cases e
    exact n _ rfl
  refine ⟨ps, by rw [upd_ne (ne _ _ h1 fun xs z => by cases z)]; exact h1, h2, fun pos cv hc => ?_⟩
  obtain ⟨c, e1, e2⟩ := h3 pos cv hc
  exact ⟨c, e1, by rw [upd_ne (ne _ _ e2 fun xs z => by unfold CodeO at z; cases z)]; exact e2⟩
theorem ButT.exT {T : List (Addr × Str)} {a : Addr} {H H1 H2 : Hp} (b : ButT T a H H1) (e : ExT T H1 H2) : ButT T a H H2 := b.extN e.ex e.tb
/-- a told deed -/
theorem w_lam {T : List (Addr × Str)} {t : XK → TE} {H : Hp} {Q : VK} (hT : Tabs T H) (h : ∀ H1, ExT T H H1 → t (toldE K Q) σ H1 Q) : tLam T (toldT K) t σ H Q := ⟨hT, fun H1 e t1 => h H1 ⟨e, t1⟩⟩
theorem told_no {c : Str} {H : Hp} {Q : VK} (hc : c ∈ wnames) (hn : c ≠ "Needed") (h : ∀ t H2, Same H H2 → H t = none → H2 t = some (.tup [.str "refused", .str c]) → Q (.ref t) H2) : toldE K Q (.ref (He.ga K c)) none H := ⟨c, hc, rfl, .inl ⟨hn, rfl, h⟩⟩
abbrev refD (c : Str) : PyData := .tuple [.str "refused", .str c]
theorem refD_dp {c : Str} {H : Hp} {t : Addr} (h : H t = some (.tup [.str "refused", .str c])) : Dp K H (.ref t) (refD c) := .tup (tupOf h) (.cons (.str _) (.cons (.str _) .nil))
/-- a list of what was told, newer than H0 -/
structure Fnd (K : PySem.W.Frag) (T : List (Addr × Str)) (H0 : Hp) (F : Addr) (cs : List PyData) (H : Hp) : Prop where
  ex : ExT T H0 H
  nw : NwT H0 F
  is : ∃ xs, H F = some (.lst xs) ∧ DpAll K H xs cs
  im : immAll cs = true
theorem dps_eT {T : List (Addr × Str)} {H H1 : Hp} {vs : List V} (e : ExT T H H1) (h : DpAll K H vs ds) : DpAll K H1 vs ds := dps_eN e.ex h
theorem dp_eT {T : List (Addr × Str)} {H H1 : Hp} {v : V} (e : ExT T H H1) (h : Dp K H v d) : Dp K H1 v d := dp_eN e.ex h
theorem lst_eT {T : List (Addr × Str)} {H H1 : Hp} {a : Addr} {xs : List V} (e : ExT T H H1) (h : H a = some (.lst xs)) : H1 a = some (.lst xs) := e.ex _ _ h fun ps z => by cases z
theorem tup_eT {T : List (Addr × Str)} {H H1 : Hp} {a : Addr} {xs : List V} (e : ExT T H H1) (h : SqT K H a xs) : SqT K H1 a xs := tup_nt (fun b o h m _ => e.ex b o h m) h
/-- found = [x] -/
theorem fnd_new {T : List (Addr × Str)} {H0 H : Hp} {v : V} {Q : VK} (e : ExT T H0 H) (hv : Dp K H v d) (hi : imm d = true) (q : ∀ F H2, Fnd K T H0 F [d] H2 → Same H H2 → Q (.ref F) H2) : NewL [v] H Q :=
  w_newL (by simp) fun F H2 s nF hF => q F H2 ⟨e.same s, e.nw nF, ⟨_, hF, .cons (dp_s s hv) .nil⟩, by simp [immAll, hi]⟩ s
/-- found.append(x) -/
theorem fnd_app {T : List (Addr × Str)} {H0 H1 H : Hp} {F : Addr} {v : V} {cs : List PyData} {Q : VK} (f : Fnd K T H0 F cs H1) (e : ExT T H1 H) (hv : Dp K H v d) (hi : imm d = true) (hl : cs.length < 1000) (q : ∀ H2, Fnd K T H0 F (cs ++ [d]) H2 → Q .non H2) : rAppend (.ref F) [v] H Q := by
  obtain ⟨xs, hF, hx⟩ := f.is
  have hF2 := lst_eT e hF
  have hx2 := dps_eT e hx
  have him : immAll (cs ++ [d]) = true := by
    rw [immAll_app, f.im]
    simp [immAll, hi]
  refine w_app hF2 (by rw [dpAll_len hx]; omega) (q _ ⟨(f.ex.trans e).mut f.nw hF2, f.nw, ⟨_, upd_same, ?_⟩, him⟩)
  exact dpAll_mut hF2 him (dpAll_app hx2 (.cons hv .nil))
theorem Fnd.ty {T : List (Addr × Str)} {H0 H : Hp} {F : Addr} {cs : List PyData} (f : Fnd K T H0 F cs H) : tyV K "list" (.ref F) H := by
  obtain ⟨xs, hF, _⟩ := f.is
  exact tyL hF
theorem Fnd.dp {T : List (Addr × Str)} {H0 H : Hp} {F : Addr} {cs : List PyData} (f : Fnd K T H0 F cs H) : Dp K H (.ref F) (.list cs) := by
  obtain ⟨xs, hF, hx⟩ := f.is
  exact .lst (lstOf hF) hx
/-- [e for x in range(n)] -/
theorem evl_rng {m : Int} {n i : Nat} {vs : List Nat} {f : Nat → PyData} (hm : m = (n : Int)) (hn : n ≤ 1000) (him : ∀ j, imm (f j) = true) (hw : ∀ j : Nat, wipe ((wipe σ vs).set i (some (.int (0 + (j : Int))))) vs = wipe σ vs) (he : ∀ j : Nat, EvD K te ((wipe σ vs).set i (some (.int (0 + (j : Int))))) H0 (f j)) :
    EvL K (tLc (iRng1 (tCons (tC (.int m)) tNil)) (gName i) tYes te vs) σ H0 ((List.range n).map f) := fun H s Q q => by
  subst hm
  refine w_lc ⟨(n : Nat), rfl, by omega, by omega, ?_⟩
  rw [Int.toNat_natCast]
  refine lc_data (K := K) walk_range (by omega) ((List.range n).map fun j => [f j]) (by simp) (fun _ _ => trivial) ?_ ?_
  · rintro D j acc x H1 H2 hD hj hacc hH1 iv ⟨rfl, rfl⟩
    refine ⟨hw j, ?_⟩
    refine w_yes (if_t rfl (he j _ (s.trans iv.1) _ fun v H3 s3 hv => ?_))
    refine lcd_nx hD (by omega) hacc hH1 iv s3 hv ?_ ?_
    · rw [flat_oneD f]
      refine immAll_mem fun d hd => ?_
      obtain ⟨j, _, rfl⟩ := List.mem_map.mp hd
      exact him j
    · rw [List.getElem?_map, List.getElem?_range hj]
      rfl
  · intro D acc H1 hD s1 hD1 hacc
    rw [flat_oneD f] at hacc
    exact q D acc H1 s1 hD hD1 hacc
end
end RG
/-! ### data that outlive changes of some lists (the dice, things that grow): no list of them is one of those -/
namespace RG
open PySem PySem.Spec PyProof.Rows L2 LamX
/-- lists stand at A -/
def LsA (A : Addr → Prop) (H : Hp) : Prop := ∀ b, A b → ∃ xs, H b = some (.lst xs)
/-- all but what stands at A, and tables, stays -/
def KpB (A : Addr → Prop) (H H2 : Hp) : Prop := ∀ b o, H b = some o → ¬ A b → (∀ ps, o ≠ .tbl ps) → H2 b = some o
mutual
inductive KD (K : PySem.W.Frag) (A : Addr → Prop) (H : Hp) : V → PyData → Prop
  | non : KD K A H .non .none
  | bl (b : Bool) : KD K A H (.bl b) (.bool b)
  | int (i : Int) : KD K A H (.int i) (.int i)
  | str (z : Str) : KD K A H (.str z) (.str z)
  | lst {b : Addr} {vs : List V} {ds : List PyData} (n : ¬ A b) (h : SqL K H b vs) (t : KDs K A H vs ds) : KD K A H (.ref b) (.list ds)
  | tup {b : Addr} {vs : List V} {ds : List PyData} (h : SqT K H b vs) (t : KDs K A H vs ds) : KD K A H (.ref b) (.tuple ds)
inductive KDs (K : PySem.W.Frag) (A : Addr → Prop) (H : Hp) : List V → List PyData → Prop
  | nil : KDs K A H [] []
  | cons {v : V} {vs : List V} {d : PyData} {ds : List PyData} (h : KD K A H v d) (t : KDs K A H vs ds) : KDs K A H (v :: vs) (d :: ds)
end
section
variable {K : PySem.W.Frag} {A : Addr → Prop} {H H1 H2 : Hp}
theorem KpB.refl : KpB A H H := fun _ _ h _ _ => h
theorem KpB.trans (x : KpB A H H1) (y : KpB A H1 H2) : KpB A H H2 := fun b o h n m => y b o (x b o h n m) n m
theorem kpb_same (s : Same H H1) : KpB A H H1 := fun b o h _ _ => s b o h
theorem kpb_butT {T : List (Addr × Str)} {a : Addr} (s : ButT T a H H1) (ha : A a) : KpB A H H1 := fun b o h n m => s.kp b o h (fun z => n (by rw [z]; exact ha)) m
theorem kpb_but {a : Addr} (s : But a H H1) (ha : A a) : KpB A H H1 := fun b o h n _ => s.kp b o h fun z => n (by rw [z]; exact ha)
theorem LsA.same (l : LsA A H) (s : Same H H1) : LsA A H1 := fun b hb => by
  obtain ⟨xs, h⟩ := l b hb
  exact ⟨xs, s _ _ h⟩
theorem LsA.ne (l : LsA A H) {p : Addr} (h : H p = none) : ¬ A p := fun hp => by
  obtain ⟨xs, e⟩ := l p hp
  rw [h] at e
  cases e
theorem kpb_exT {T : List (Addr × Str)} (s : ExT T H H1) : KpB A H H1 := fun b o h _ m => s.ex b o h m
/-- a change of a list that H does not know -/
theorem KpB.mut {p : Addr} {o : HO} (x : KpB A H H1) (n : NwT H p) : KpB A H (upd H1 p o) := fun b u h nb m => by
  rw [upd_ne (fun z => by obtain ⟨ps, w⟩ := n u (by rw [← z]; exact h); exact m ps w)]
  exact x b u h nb m
theorem kpb_sqL {b : Addr} {xs : List V} (s : KpB A H H1) (n : ¬ A b) (h : SqL K H b xs) : SqL K H1 b xs := by
  rcases h with (h | ⟨o, h⟩) | h
  · exact .inl (.inl (s _ _ h n fun ps z => by cases z))
  · exact .inl (.inr ⟨o, s _ _ h n fun ps z => by cases z⟩)
  · exact .inr h
theorem kpb_sqT {b : Addr} {xs : List V} (s : KpB A H H1) (hd : LsA A H) (h : SqT K H b xs) : SqT K H1 b xs := by
  rcases h with (h | ⟨o, h⟩) | h
  · exact .inl (.inl (s _ _ h (fun z => by obtain ⟨xs, e⟩ := hd b z; rw [e] at h; cases h) fun ps z => by cases z))
  · exact .inl (.inr ⟨o, s _ _ h (fun z => by obtain ⟨xs, e⟩ := hd b z; rw [e] at h; cases h) fun ps z => by cases z⟩)
  · exact .inr h
mutual
theorem KD.mono (s : KpB A H H1) (hd : LsA A H) : ∀ {v : V} {d : PyData}, KD K A H v d → KD K A H1 v d
  | _, _, .non => .non
  | _, _, .bl b => .bl b
  | _, _, .int i => .int i
  | _, _, .str z => .str z
  | _, _, .lst n h t => .lst n (kpb_sqL s n h) (KDs.mono s hd t)
  | _, _, .tup h t => .tup (kpb_sqT s hd h) (KDs.mono s hd t)
theorem KDs.mono (s : KpB A H H1) (hd : LsA A H) : ∀ {vs : List V} {ds : List PyData}, KDs K A H vs ds → KDs K A H1 vs ds
  | _, _, .nil => .nil
  | _, _, .cons h t => .cons (KD.mono s hd h) (KDs.mono s hd t)
end
mutual
theorem KD.dp : ∀ {v : V} {d : PyData}, KD K A H v d → Dp K H v d
  | _, _, .non => .non
  | _, _, .bl b => .bl b
  | _, _, .int i => .int i
  | _, _, .str z => .str z
  | _, _, .lst n h t => .lst h (KDs.dp t)
  | _, _, .tup h t => .tup h (KDs.dp t)
theorem KDs.dp : ∀ {vs : List V} {ds : List PyData}, KDs K A H vs ds → DpAll K H vs ds
  | _, _, .nil => .nil
  | _, _, .cons h t => .cons (KD.dp h) (KDs.dp t)
end
mutual
theorem kdv_imm : ∀ {v : V} {d : PyData}, imm d = true → Dp K H v d → KD K A H v d
  | _, _, _, .non => .non
  | _, _, _, .bl b => .bl b
  | _, _, _, .int i => .int i
  | _, _, _, .str x => .str x
  | _, _, i, .lst h t => by simp [imm] at i
  | _, _, i, .tup h t => .tup h (kdvs_imm (by simpa [imm] using i) t)
theorem kdvs_imm : ∀ {vs : List V} {ds : List PyData}, immAll ds = true → DpAll K H vs ds → KDs K A H vs ds
  | _, _, _, .nil => .nil
  | _, _, i, .cons h t => by
    simp [immAll] at i
    exact .cons (kdv_imm i.1 h) (kdvs_imm i.2 t)
end
theorem KDs.len : ∀ {vs : List V} {ds : List PyData}, KDs K A H vs ds → vs.length = ds.length
  | _, _, .nil => rfl
  | _, _, .cons _ t => by simp [KDs.len t]
theorem KDs.app : ∀ {vs us : List V} {ds es : List PyData}, KDs K A H vs ds → KDs K A H us es → KDs K A H (vs ++ us) (ds ++ es)
  | _, _, _, _, .nil, h => h
  | _, _, _, _, .cons x t, h => .cons x (KDs.app t h)
theorem KDs.getV : ∀ {vs : List V} {ds : List PyData} {i : Nat} {v : V}, KDs K A H vs ds → vs[i]? = some v → ∃ d, ds[i]? = some d ∧ KD K A H v d
  | _, _, _, _, .nil, e => by simp at e
  | _, _, 0, _, .cons x _, e => by
    simp at e
    subst e
    exact ⟨_, rfl, x⟩
  | _, _, i + 1, v, .cons _ t, e => by
    obtain ⟨d, h1, h2⟩ := KDs.getV (i := i) t (by simpa using e)
    exact ⟨d, by simpa using h1, h2⟩
end
theorem tabs_mut {T : List (Addr × Str)} {H : Hp} {p : Addr} {o : HO} {xs : List V} (t : Tabs T H) (hp : H p = some (.lst xs)) : Tabs T (upd H p o) := fun q hq => by
  obtain ⟨ps, h1, h2, h3⟩ := t q hq
  have ne : ∀ z u, H z = some u → (∀ xs, u ≠ .lst xs) → z ≠ p := fun z u e n w => by
    rw [w, hp] at e
    cases e
    exact n _ rfl
  refine ⟨ps, by rw [upd_ne (ne _ _ h1 fun xs z => by cases z)]; exact h1, h2, fun pos cv hc => ?_⟩
  obtain ⟨c, e1, e2⟩ := h3 pos cv hc
  exact ⟨c, e1, by rw [upd_ne (ne _ _ e2 fun xs z => by unfold CodeO at z; cases z)]; exact e2⟩
/-- evaluated to such data -/
def EvK (K : PySem.W.Frag) (A : Addr → Prop) (te : TE) (σ : L2.St) (H0 : Hp) (d : PyData) : Prop := ∀ H, Same H0 H → ∀ Q : VK, (∀ v H2, Same H H2 → KD K A H2 v d → Q v H2) → te σ H Q
def EvKs (K : PySem.W.Frag) (A : Addr → Prop) (ts : TA) (σ : L2.St) (H0 : Hp) (ds : List PyData) : Prop := ∀ H, Same H0 H → ∀ Q : List V → Hp → Prop, (∀ vs H2, Same H H2 → KDs K A H2 vs ds → Q vs H2) → ts σ H Q
def EvKL (K : PySem.W.Frag) (A : Addr → Prop) (te : TE) (σ : L2.St) (H0 : Hp) (ds : List PyData) : Prop := ∀ H, Same H0 H → ∀ Q : VK, (∀ p vs H1 H2, Same H H1 → Same H1 H2 → H1 p = none → H2 p = some (.lst vs) → KDs K A H1 vs ds → Q (.ref p) H2) → te σ H Q
section
variable {K : PySem.W.Frag} {A : Addr → Prop} {σ : L2.St} {H0 : Hp} {d : PyData} {ds es : List PyData} {te tf : TE} {ts : TA}
theorem evk_non : EvK K A (tC .non) σ H0 .none := fun H _ Q q => q _ H (Same.refl _) .non
theorem evk_int {i : Int} : EvK K A (tC (.int i)) σ H0 (.int i) := fun H _ Q q => q _ H (Same.refl _) (.int i)
theorem evk_bl {b : Bool} : EvK K A (tC (.bl b)) σ H0 (.bool b) := fun H _ Q q => q _ H (Same.refl _) (.bl b)
theorem evk_str {z : Str} : EvK K A (tC (.str z)) σ H0 (.str z) := fun H _ Q q => q _ H (Same.refl _) (.str z)
theorem evk_neg {i : Int} : EvK K A (tUn (rU fun i => .int (-i)) (tC (.int i))) σ H0 (.int (-i)) := fun H _ Q q => ⟨i, rfl, q _ H (Same.refl _) (.int _)⟩
theorem evk_vint {i : Nat} {n : Int} (e : σ[i]? = some (some (.int n))) : EvK K A (tVar i) σ H0 (.int n) := fun H s Q q => ⟨_, e, q _ H (Same.refl _) (.int n)⟩
theorem evk_var {i : Nat} {v : V} (e : σ[i]? = some (some v)) (hd : LsA A H0) (h : KD K A H0 v d) : EvK K A (tVar i) σ H0 d := fun H s Q q => ⟨v, e, q v H (Same.refl _) (h.mono (kpb_same s) hd)⟩
theorem evks_nil : EvKs K A tNil σ H0 [] := fun H _ Q q => q [] H (Same.refl _) .nil
theorem evks_cons (hd : LsA A H0) (x : EvK K A te σ H0 d) (y : EvKs K A ts σ H0 ds) : EvKs K A (tCons te ts) σ H0 (d :: ds) := fun H s Q q => x H s _ fun v H1 s1 h1 => y H1 (s.trans s1) _ fun vs H2 s2 h2 => q _ H2 (s1.trans s2) (.cons (h1.mono (kpb_same s2) (hd.same (s.trans s1))) h2)
theorem evk_tup (hd : LsA A H0) (x : EvKs K A ts σ H0 ds) (l : ds.length ≤ 1000) : EvK K A (tTup ts) σ H0 (.tuple ds) := fun H s Q q => x H s _ fun vs H1 s1 h1 => ⟨sz (by rw [h1.len]; omega), fun p np => q _ _ (s1.trans (Same.new np)) (.tup (tupOf upd_same) (h1.mono (kpb_same (Same.new np)) (hd.same (s.trans s1))))⟩
theorem evk_lst (hd : LsA A H0) (x : EvKs K A ts σ H0 ds) (l : ds.length ≤ 1000) : EvK K A (tLst ts) σ H0 (.list ds) := fun H s Q q => x H s _ fun vs H1 s1 h1 => ⟨sz (by rw [h1.len]; omega), fun p np => q _ _ (s1.trans (Same.new np)) (.lst ((hd.same (s.trans s1)).ne np) (lstOf upd_same) (h1.mono (kpb_same (Same.new np)) (hd.same (s.trans s1))))⟩
theorem evk_list (hd : LsA A H0) (x : EvK K A te σ H0 (.tuple ds)) : EvK K A (tCB (cList K) (tCons te tNil)) σ H0 (.list ds) := fun H s Q q => x H s _ fun v H1 s1 h1 => by
  cases h1 with
  | tup h t => exact ⟨_, _, rfl, .inr h, fun p np => q _ _ (s1.trans (Same.new np)) (.lst ((hd.same (s.trans s1)).ne np) (lstOf upd_same) (t.mono (kpb_same (Same.new np)) (hd.same (s.trans s1))))⟩
theorem evkl_lst (x : EvKs K A ts σ H0 ds) (l : ds.length ≤ 1000) : EvKL K A (tLst ts) σ H0 ds := fun H s Q q => x H s _ fun vs H1 s1 h1 => ⟨sz (by rw [h1.len]; omega), fun p np => q p vs H1 _ s1 (Same.new np) np upd_same h1⟩
theorem evkl_cat {i : Nat} {b : Addr} {xs : List V} (hd : LsA A H0) (e : σ[i]? = some (some (.ref b))) (hb : H0 b = some (.lst xs)) (hx : KDs K A H0 xs ds) (y : EvKL K A te σ H0 es) (l : ds.length + es.length ≤ 1000) : EvKL K A (tOp rCat (tVar i) te) σ H0 (ds ++ es) := fun H s Q q => ⟨.ref b, e, y H s _ fun p vs H1 H2 s1 s2 np hp h1 => by
  refine w_cat (s2 _ _ (s1 _ _ (s _ _ hb))) hp (by rw [hx.len, h1.len]; omega) fun c nc => q c _ H2 _ (s1.trans s2) (Same.new nc) nc upd_same ?_
  exact (hx.mono (kpb_same ((s.trans s1).trans s2)) hd).app (h1.mono (kpb_same s2) (hd.same (s.trans s1)))⟩
theorem evkl_use {H : Hp} {Q : VK} (x : EvKL K A te σ H ds) (q : ∀ p vs H1 H2, Same H H1 → Same H1 H2 → H1 p = none → H2 p = some (.lst vs) → KDs K A H1 vs ds → Q (.ref p) H2) : te σ H Q := x H (Same.refl _) Q q
theorem evk_use {H : Hp} {Q : VK} (x : EvK K A te σ H d) (q : ∀ v H2, Same H H2 → KD K A H2 v d → Q v H2) : te σ H Q := x H (Same.refl _) Q q
theorem kds_rep {H : Hp} {vs : List V} (h : KDs K A H vs ds) : ∀ n : Nat, KDs K A H (List.replicate n vs).flatten (List.replicate n ds).flatten
  | 0 => .nil
  | n + 1 => by
    rw [List.replicate_succ, List.replicate_succ, List.flatten_cons, List.flatten_cons]
    exact h.app (kds_rep h n)
/-- (..) * n and (..) + (..) -/
theorem evk_repT {m : Int} {n : Nat} (hm : m = (n : Int)) (hd : LsA A H0) (x : EvK K A te σ H0 (.tuple ds)) (h2 : 2 ≤ n) (hn : n ≤ 1000) (l0 : ds ≠ []) (l : ds.length ≤ 1000) : EvK K A (tOp (rRepT K) te (tC (.int m))) σ H0 (.tuple (List.replicate n ds).flatten) := fun H s Q q => x H s _ fun v H1 s1 h1 => by
  subst hm
  cases h1 with
  | tup hx hxs =>
  have hl := hxs.len
  refine ⟨_, (n : Nat), _, rfl, rfl, hx, fun z => l0 (by rw [z] at hl; exact List.eq_nil_of_length_eq_zero hl.symm), by omega, by omega, by omega, fun p np => ?_⟩
  rw [Int.toNat_natCast]
  exact q _ _ (s1.trans (Same.new np)) (.tup (tupOf upd_same) (kds_rep (hxs.mono (kpb_same (Same.new np)) (hd.same (s.trans s1))) n))
theorem evk_catT (hd : LsA A H0) (x : EvK K A te σ H0 (.tuple ds)) (y : EvK K A tf σ H0 (.tuple es)) (l0 : ds ≠ []) (m0 : es ≠ []) (l : ds.length + es.length ≤ 1000) : EvK K A (tOp (rCatT K) te tf) σ H0 (.tuple (ds ++ es)) := fun H s Q q => x H s _ fun v H1 s1 h1 => y H1 (s.trans s1) _ fun w H2 s2 h2 => by
  cases h1 with
  | tup hx hxs =>
  cases h2 with
  | tup hy hys =>
  have l1 := hxs.len
  have l2 := hys.len
  refine ⟨_, _, _, _, rfl, rfl, tup_s s2 hx, hy, fun z => l0 (by rw [z] at l1; exact List.eq_nil_of_length_eq_zero l1.symm), sz (by omega), fun z => absurd (by rw [z] at l2; exact List.eq_nil_of_length_eq_zero l2.symm) m0, fun _ p np => ?_⟩
  have hd2 := hd.same ((s.trans s1).trans s2)
  exact q _ _ ((s1.trans s2).trans (Same.new np)) (.tup (tupOf upd_same) (((hxs.mono (kpb_same s2) (hd.same (s.trans s1))).mono (kpb_same (Same.new np)) hd2).app (hys.mono (kpb_same (Same.new np)) hd2)))
end
end RG
/-! ### dicts: readings step by step -/
namespace RG
open PySem PySem.Spec PyProof.Rows L2
theorem hu1 {k : Nat} {A : Around} (hr : Room k A) : A.units + 1 < cLine := by
  have := hr.un
  omega
/-- d[y]; y in d; d.get(y, z); by values -/
def rDGet : V → V → Hp → VK → Prop := fun x y H Q => ∃ a v, x = .ref a ∧ DGet H a y (some v) ∧ Q v H
def rDIn (neg : Bool) : V → V → Hp → VK → Prop := fun x y H Q => ∃ a o, x = .ref a ∧ DGet H a y o ∧ Q (.bl (if neg then !o.isSome else o.isSome)) H
def rDPut : V → V → V → Hp → (Hp → Prop) → Prop := fun x y v H N => ∃ a H4, x = .ref a ∧ DPut H a y v H4 ∧ N H4
section
variable {K : PySem.W.Frag} {σ : L2.St} {H : Hp} {D : Ends} {td ty tx te : TE} {Q : VK} {a : Addr} {ts : TS}
theorem w_dget (h : td σ H fun x H1 => ty σ H1 fun y H2 => rDGet x y H2 Q) : tDGet td ty σ H Q := h
theorem w_din (h : ty σ H fun y H1 => td σ H1 fun x H2 => rDIn false x y H2 Q) : tDIn ty td σ H Q := h
theorem w_dnotin (h : ty σ H fun y H1 => td σ H1 fun x H2 => rDIn true x y H2 Q) : tDNotIn ty td σ H Q := h
theorem w_dput (h : te σ H fun v H1 => td σ H1 fun x H2 => ty σ H2 fun y H3 => rDPut x y v H3 fun H4 => D.nx σ H4) : sDPut td ty te D σ H := h
theorem w_dnewK (h : ∀ p H2, Same H H2 → H p = none → H2 p = some (.dK []) → Q (.ref p) H2) : tDNewK σ H Q := fun p np => h p _ (Same.new np) np upd_same
theorem w_dnewT (h : ∀ p H2, Same H H2 → H p = none → H2 p = some (.dT []) → Q (.ref p) H2) : tDNewT σ H Q := fun p np => h p _ (Same.new np) np upd_same
theorem a_dgetK {kvs : List (Key × V)} {k : Key} {v : V} (e : Rd H a (.dK kvs)) (hv : valV kvs k = some v) (q : Q v H) : rDGet (.ref a) (kV k) H Q := ⟨a, v, rfl, .inl ⟨kvs, k, e, rfl, hv.symm⟩, q⟩
theorem a_dgetS {kvs : List (Key × V)} {z : Str} {v : V} (e : Rd H a (.dK kvs)) (hv : valV kvs (.inr z) = some v) (q : Q v H) : rDGet (.ref a) (.str z) H Q := a_dgetK (k := .inr z) e hv q
theorem a_dgetT {kvs : List (List Key × V)} {k : List Key} {v : V} {b : Addr} (e : Rd H a (.dT kvs)) (eb : H b = some (.tup (k.map kV))) (hv : valV kvs k = some v) (q : Q v H) : rDGet (.ref a) (.ref b) H Q := ⟨a, v, rfl, .inr ⟨kvs, k, b, e, rfl, eb, hv.symm⟩, q⟩
theorem a_dinS {kvs : List (Key × V)} {z : Str} (e : Rd H a (.dK kvs)) (q : Q (.bl (valV kvs (.inr z)).isSome) H) : rDIn false (.ref a) (.str z) H Q := ⟨a, _, rfl, .inl ⟨kvs, .inr z, e, rfl, rfl⟩, q⟩
theorem a_dnotinS {kvs : List (Key × V)} {z : Str} (e : Rd H a (.dK kvs)) (q : Q (.bl (!(valV kvs (.inr z)).isSome)) H) : rDIn true (.ref a) (.str z) H Q := ⟨a, _, rfl, .inl ⟨kvs, .inr z, e, rfl, rfl⟩, q⟩
theorem a_dputK {kvs : List (Key × V)} {k : Key} {v : V} {N : Hp → Prop} (e : H a = some (.dK kvs)) (hl : kvs.length < 100000) (q : N (upd H a (.dK (putK kvs k v)))) : rDPut (.ref a) (kV k) v H N := ⟨a, _, rfl, .inl ⟨kvs, k, e, rfl, szl hl, rfl⟩, q⟩
theorem a_dputS {kvs : List (Key × V)} {z : Str} {v : V} {N : Hp → Prop} (e : H a = some (.dK kvs)) (hl : kvs.length < 100000) (q : N (upd H a (.dK (putK kvs (.inr z) v)))) : rDPut (.ref a) (.str z) v H N := a_dputK (k := .inr z) e hl q
theorem a_dputI {kvs : List (Key × V)} {i : Int} {v : V} {N : Hp → Prop} (e : H a = some (.dK kvs)) (hl : kvs.length < 100000) (q : N (upd H a (.dK (putK kvs (.inl i) v)))) : rDPut (.ref a) (.int i) v H N := a_dputK (k := .inl i) e hl q
theorem a_dputT {kvs : List (List Key × V)} {k : List Key} {v : V} {b : Addr} {N : Hp → Prop} (e : H a = some (.dT kvs)) (eb : H b = some (.tup (k.map kV))) (hl : kvs.length < 100000) (q : N (upd H a (.dT (putK kvs k v)))) : rDPut (.ref a) (.ref b) v H N := ⟨a, _, rfl, .inr ⟨kvs, k, b, e, rfl, eb, szl hl, rfl⟩, q⟩
theorem w_dget2 (h : td σ H fun x H1 => ∃ a, x = .ref a ∧ IsD H1 a ∧ ty σ H1 fun y H2 => tx σ H2 fun z H3 => ∃ o, DGet H3 a y o ∧ Q (o.getD z) H3) : tDGet2 td ty tx σ H Q := h
/-- a walk of the keys of the dict at a: it is locked meanwhile -/
theorem w_lockE {u : HO} (h : H a = some u) (mu : Mut (some u)) (q : ∀ od, te σ (upd H a (.frz od u)) fun v H' => H' a = some (.frz od u) ∧ Q v (upd H' a u)) : tLockE te σ H Q := ⟨a, u, h, mu, q⟩
theorem w_lockS {u : HO} (h : H a = some u) (mu : Mut (some u)) (q : ∀ od, ts ⟨fun σ' H' => H' a = some (.frz od u) ∧ D.nx σ' (upd H' a u), fun v H' => H' a = some (.frz od u) ∧ D.rt v (upd H' a u), fun σ' H' => H' a = some (.frz od u) ∧ D.bk σ' (upd H' a u), fun σ' H' => H' a = some (.frz od u) ∧ D.ct σ' (upd H' a u)⟩ σ (upd H a (.frz od u))) : tLock ts D σ H := ⟨a, u, h, mu, q⟩
theorem w_iKeys {R : It → Hp → Prop} (h : td σ H fun x H1 => ∃ d o, x = .ref d ∧ ((∃ kvs, H1 d = some (.frz o (.dK kvs)) ∧ R (Itk d o kvs) H1) ∨ ∃ kvs, H1 d = some (.frz o (.dT kvs)) ∧ R (Itkt d o kvs) H1)) : iKeys td σ H R := h
theorem lock_same {H2 : Hp} {u : HO} {od : Obj} (h : H a = some u) (s : Same (upd H a (.frz od u)) H2) : Same H (upd H2 a u) := fun b o e => by
  by_cases hb : b = a
  · subst hb
    rw [upd_same]
    rw [h] at e
    exact e
  · rw [upd_ne hb]
    exact s _ _ (by rw [upd_ne hb]; exact e)
theorem rd_s {H2 : Hp} {u : HO} (s : Same H H2) (h : Rd H a u) : Rd H2 a u := h.imp (fun z => s _ _ z) fun ⟨o, z⟩ => ⟨o, s _ _ z⟩
end
end RG
namespace RG
open PySem PySem.Spec PyProof.Rows L2 LamX
section
variable {K : PySem.W.Frag} {H : Hp} {Q : VK}
/-- xs[k:] of a list -/
theorem w_slLFrom {a : Addr} {xs : List V} {k : Nat} (s : SqL K H a xs) (h : ∀ p H2, Same H H2 → H p = none → H2 p = some (.lst (xs.drop k)) → Q (.ref p) H2) : rSlL K (.ref a) (some (k : Nat)) none H Q := by
  refine ⟨a, xs, rfl, s, fun p np => ?_⟩
  have e1 : HT.sIx xs.length 0 (some ((k : Nat) : Int)) = min k xs.length := HT.sIx_nat _ _ k
  have e2 : HT.sIx xs.length xs.length none = xs.length := HT.sIx_none _ _
  have e3 : cutV xs (some ((k : Nat) : Int)) none = xs.drop k := by
    unfold cutV
    rw [e1, e2]
    rcases Nat.le_total k xs.length with hk | hk
    · rw [Nat.min_eq_left hk, List.take_of_length_le (by rw [List.length_drop]; omega)]
    · rw [Nat.min_eq_right hk, List.drop_of_length_le hk]
      simp
  rw [e3]
  exact h p _ (Same.new np) np upd_same
theorem w_slLToN {a : Addr} {xs : List V} {k : Nat} (s : SqL K H a xs) (h : ∀ p H2, Same H H2 → H p = none → H2 p = some (.lst (xs.take k)) → Q (.ref p) H2) : rSlL K (.ref a) none (some (k : Nat)) H Q :=
  w_slLTo s fun p np => h p _ (Same.new np) np upd_same
/-- tuple(xs), xs a list of data -/
theorem w_tupleD {p : Addr} {xs : List V} {ds : List PyData} (hp : SqL K H p xs) (ha : DpAll K H xs ds) (h : ∀ u H2, Same H H2 → H2 u = some (.tup xs) → Dp K H2 (.ref u) (.tuple ds) → Q (.ref u) H2) : cTuple K [.ref p] H Q :=
  ⟨p, xs, rfl, .inl ⟨hp, fun t nt => h t _ (Same.new nt) upd_same (.tup (tupOf upd_same) (dps_s (Same.new nt) ha))⟩⟩
end
end RG
namespace RG
open PySem PySem.Spec PyProof.Rows L2 LamX
mutual
/-- data without lists stay where tuples stay -/
theorem dp_tups {K : PySem.W.Frag} {H H1 : Hp} (e : ∀ b xs, SqT K H b xs → SqT K H1 b xs) : ∀ {v : V} {d : PyData}, imm d = true → Dp K H v d → Dp K H1 v d
  | _, _, _, .non => .non
  | _, _, _, .bl b => .bl b
  | _, _, _, .int i => .int i
  | _, _, _, .str x => .str x
  | _, _, i, .lst h a => by simp [imm] at i
  | _, _, i, .tup h a => .tup (e _ _ h) (dps_tups e (by simpa [imm] using i) a)
theorem dps_tups {K : PySem.W.Frag} {H H1 : Hp} (e : ∀ b xs, SqT K H b xs → SqT K H1 b xs) : ∀ {vs : List V} {ds : List PyData}, immAll ds = true → DpAll K H vs ds → DpAll K H1 vs ds
  | _, _, _, .nil => .nil
  | _, _, i, .cons a b => by
    simp [immAll] at i
    exact .cons (dp_tups e i.1 a) (dps_tups e i.2 b)
end
def notTup : HO → Prop
  | .tup _ => False
  | .frz _ (.tup _) => False
  | _ => True
theorem tups_upd {K : PySem.W.Frag} {H : Hp} {D : Addr} {o u : HO} (hD : H D = some u) (n : notTup u) : ∀ b xs, SqT K H b xs → SqT K (upd H D o) b xs := fun b xs h => by
  rcases h with (h | ⟨w, h⟩) | h
  · exact .inl (.inl (by rw [upd_ne (ne_of h hD (by intro z; rw [← z] at n; exact n))]; exact h))
  · exact .inl (.inr ⟨w, by rw [upd_ne (ne_of h hD (by intro z; rw [← z] at n; exact n))]; exact h⟩)
  · exact .inr h
end RG
namespace RG
open PySem PySem.Spec PyProof.Rows L2 LamX
/-- sorted(d), len(d) -/
def rSortDI : List V → Hp → VK → Prop := fun xs H Q => ∃ (a : Addr) (kvs : List (Key × V)) (ks : List Int), xs = [.ref a] ∧ Rd H a (.dK kvs) ∧ kvs.map (·.1) = ks.map Sum.inl ∧ ks.length < 64 ∧ ∀ (ys : List Int) (p : Addr), ys.Perm ks → ys.Pairwise (· ≤ ·) → H p = none → Q (.ref p) (upd H p (.lst (ys.map V.int)))
def rSortDS : List V → Hp → VK → Prop := fun xs H Q => ∃ (a : Addr) (kvs : List (Key × V)) (ks : List Str), xs = [.ref a] ∧ Rd H a (.dK kvs) ∧ kvs.map (·.1) = ks.map Sum.inr ∧ ks.length < 64 ∧ ∀ ys p, ys.Perm ks → sortedS ys = true → H p = none → Q (.ref p) (upd H p (.lst (ys.map V.str)))
def rLenD : List V → Hp → VK → Prop := fun xs H Q => ∃ a kvs, xs = [V.ref a] ∧ H a = some (.dK kvs) ∧ Q (.int kvs.length) H
theorem put_keysI {kvs : List (Key × V)} {ks : List Int} {x : Int} {v : V} (h : kvs.map (·.1) = ks.map Sum.inl) : (putK kvs (.inl x) v).map (·.1) = (if x ∈ ks then ks else ks ++ [x]).map Sum.inl := by
  have ha : (kvs.any fun kv => decide (kv.1 = Sum.inl x)) = decide (x ∈ ks) := by
    have h1 : (kvs.any fun kv => decide (kv.1 = Sum.inl x)) = (kvs.map (·.1)).any fun k => decide (k = Sum.inl x) := by rw [List.any_map]; rfl
    rw [h1, h, List.any_map]
    apply Bool.eq_iff_iff.mpr
    rw [List.any_eq_true, decide_eq_true_eq]
    constructor
    · rintro ⟨y, hy, e⟩
      have := of_decide_eq_true e
      injection this with e
      rw [← e]
      exact hy
    · intro hx
      exact ⟨x, hx, by simp⟩
  unfold putK
  rw [ha]
  by_cases hx : x ∈ ks
  · rw [if_pos (decide_eq_true hx), if_pos hx, ← h, List.map_map]
    apply List.map_congr_left
    intro kv _
    simp only [Function.comp]
    split <;> rfl
  · rw [if_neg (by simpa using hx), if_neg hx, List.map_append, List.map_append, h]
    rfl
theorem put_keysS {kvs : List (Key × V)} {ks : List Str} {x : Str} {v : V} (h : kvs.map (·.1) = ks.map Sum.inr) : (putK kvs (.inr x) v).map (·.1) = (if x ∈ ks then ks else ks ++ [x]).map Sum.inr := by
  have ha : (kvs.any fun kv => decide (kv.1 = Sum.inr x)) = decide (x ∈ ks) := by
    have h1 : (kvs.any fun kv => decide (kv.1 = Sum.inr x)) = (kvs.map (·.1)).any fun k => decide (k = Sum.inr x) := by rw [List.any_map]; rfl
    rw [h1, h, List.any_map]
    apply Bool.eq_iff_iff.mpr
    rw [List.any_eq_true, decide_eq_true_eq]
    constructor
    · rintro ⟨y, hy, e⟩
      have := of_decide_eq_true e
      injection this with e
      rw [← e]
      exact hy
    · intro hx
      exact ⟨x, hx, by simp⟩
  unfold putK
  rw [ha]
  by_cases hx : x ∈ ks
  · rw [if_pos (decide_eq_true hx), if_pos hx, ← h, List.map_map]
    apply List.map_congr_left
    intro kv _
    simp only [Function.comp]
    split <;> rfl
  · rw [if_neg (by simpa using hx), if_neg hx, List.map_append, List.map_append, h]
    rfl
theorem lt_of_le_nd : ∀ {l : List Int}, l.Pairwise (· ≤ ·) → l.Nodup → l.Pairwise (· < ·)
  | [], _, _ => .nil
  | a :: l, h, n => by
    rw [List.pairwise_cons] at h ⊢
    rw [List.nodup_cons] at n
    refine ⟨fun b hb => ?_, lt_of_le_nd h.2 n.2⟩
    have := h.1 b hb
    have : a ≠ b := fun z => n.1 (z ▸ hb)
    omega
end RG
/-! ### data all of whose lists stand in the heap -/
namespace RG
open PySem PySem.Spec PyProof.Rows L2 LamX
mutual
theorem KD.imp {K : PySem.W.Frag} {A A' : Addr → Prop} {H H2 : Hp} (s : Same H H2) (w : ∀ b, A' b → A b) : ∀ {v : V} {d : PyData}, KD K A H v d → KD K A' H2 v d
  | _, _, .non => .non
  | _, _, .bl b => .bl b
  | _, _, .int i => .int i
  | _, _, .str x => .str x
  | _, _, .lst n h t => .lst (fun z => n (w _ z)) (s.seq h) (KDs.imp s w t)
  | _, _, .tup h t => .tup (RG.Same.tup s h) (KDs.imp s w t)
theorem KDs.imp {K : PySem.W.Frag} {A A' : Addr → Prop} {H H2 : Hp} (s : Same H H2) (w : ∀ b, A' b → A b) : ∀ {vs : List V} {ds : List PyData}, KDs K A H vs ds → KDs K A' H2 vs ds
  | _, _, .nil => .nil
  | _, _, .cons h t => .cons (KD.imp s w h) (KDs.imp s w t)
end
abbrev DpN (K : PySem.W.Frag) (H : Hp) : V → PyData → Prop := KD K (fun b => H b = none) H
abbrev DpNs (K : PySem.W.Frag) (H : Hp) : List V → List PyData → Prop := KDs K (fun b => H b = none) H
/-- all but what stands at p stays -/
def Oth (p : Addr) (H H2 : Hp) : Prop := ∀ b o, H b = some o → b ≠ p → H2 b = some o
section
variable {K : PySem.W.Frag} {H H1 H2 : Hp} {v : V} {d : PyData} {vs : List V} {ds es : List PyData} {p : Addr} {T : List (Addr × Str)}
theorem dpn_s (s : Same H H2) (h : DpN K H v d) : DpN K H2 v d := h.imp s fun b e => s.free e
theorem dpns_s (s : Same H H2) (h : DpNs K H vs ds) : DpNs K H2 vs ds := h.imp s fun b e => s.free e
/-- what is new is none of its lists -/
theorem dpn_new (h : DpN K H v d) (s : Same H H2) (np : H p = none) : KD K (fun b => b = p) H2 v d := h.imp s fun b e => by rw [e]; exact np
theorem dpns_new (h : DpNs K H vs ds) (s : Same H H2) (np : H p = none) : KDs K (fun b => b = p) H2 vs ds := h.imp s fun b e => by rw [e]; exact np
theorem dpn_lst {a : Addr} (h : H a = some (.lst vs)) (t : DpNs K H vs ds) : DpN K H (.ref a) (.list ds) := .lst (fun z => by rw [h] at z; cases z) (lstOf h) t
theorem KDs.of_get {A : Addr → Prop} : ∀ {vs : List V} {ds : List PyData}, vs.length = ds.length → (∀ (j : Nat) (v : V) (d : PyData), vs[j]? = some v → ds[j]? = some d → KD K A H v d) → KDs K A H vs ds
  | [], [], _, _ => .nil
  | [], _ :: _, h, _ => by simp at h
  | _ :: _, [], h, _ => by simp at h
  | v :: vs, d :: ds, h, g => .cons (g 0 v d rfl rfl) (KDs.of_get (by simpa using h) fun j v' d' h1 h2 => g (j + 1) v' d' (by simpa using h1) (by simpa using h2))
theorem kds_ints {A : Addr → Prop} : ∀ ns : List Int, KDs K A H (ns.map V.int) (ns.map PyData.int)
  | [] => .nil
  | n :: ns => .cons (.int n) (kds_ints ns)
theorem KDs.get {A : Addr → Prop} : ∀ {vs : List V} {ds : List PyData} {i : Nat} {d : PyData}, KDs K A H vs ds → ds[i]? = some d → ∃ v, vs[i]? = some v ∧ KD K A H v d
  | _, _, _, _, .nil, e => by simp at e
  | _, _, 0, _, .cons h _, e => by
    simp at e
    subst e
    exact ⟨_, rfl, h⟩
  | _, _, i + 1, d, .cons _ t, e => by
    obtain ⟨v, h1, h2⟩ := KDs.get (i := i) (d := d) t (by simpa using e)
    exact ⟨v, by simpa using h1, h2⟩
theorem KDs.drop {A : Addr → Prop} : ∀ {vs : List V} {ds : List PyData} (n : Nat), KDs K A H vs ds → KDs K A H (vs.drop n) (ds.drop n)
  | _, _, 0, h => by simpa using h
  | _, _, _ + 1, .nil => by simpa using (KDs.nil : KDs K A H [] [])
  | _, _, n + 1, .cons _ t => by simpa using KDs.drop n t
theorem lsa_one {xs : List V} (h : H p = some (.lst xs)) : LsA (fun b => b = p) H := fun b (hb : b = p) => ⟨xs, by rw [hb]; exact h⟩
theorem Oth.refl : Oth p H H := fun _ _ h _ => h
theorem Oth.trans (x : Oth p H H1) (y : Oth p H1 H2) : Oth p H H2 := fun b o h n => y b o (x b o h n) n
theorem Oth.same (x : Oth p H H1) (s : Same H1 H2) : Oth p H H2 := fun b o h n => s _ _ (x b o h n)
theorem oth_of (s : Same H H1) : Oth p H H1 := fun b o h _ => s b o h
theorem Oth.put {o : HO} (x : Oth p H H1) : Oth p H (upd H1 p o) := fun b u h n => by
  rw [upd_ne n]
  exact x b u h n
theorem Oth.kpb (x : Oth p H H1) : KpB (fun b => b = p) H H1 := fun b o h n _ => x b o h n
theorem Oth.tabs {xs : List V} (x : Oth p H H1) (hp : H p = some (.lst xs)) (t : Tabs T H) : Tabs T H1 := fun q hq => by
  obtain ⟨ps, h1, h2, h3⟩ := t q hq
  refine ⟨ps, x _ _ h1 (ne_of h1 hp (by intro z; cases z)), h2, fun pos cv hc => ?_⟩
  obtain ⟨c, e1, e2⟩ := h3 pos cv hc
  exact ⟨c, e1, x _ _ e2 (ne_of e2 hp (by intro z; unfold CodeO at z; cases z))⟩
end
/-- evaluated to such data -/
def EvN (K : PySem.W.Frag) (te : TE) (σ : L2.St) (H0 : Hp) (d : PyData) : Prop := ∀ H, Same H0 H → ∀ Q : VK, (∀ v H2, Same H H2 → DpN K H2 v d → Q v H2) → te σ H Q
def EvNs (K : PySem.W.Frag) (ts : TA) (σ : L2.St) (H0 : Hp) (ds : List PyData) : Prop := ∀ H, Same H0 H → ∀ Q : List V → Hp → Prop, (∀ vs H2, Same H H2 → DpNs K H2 vs ds → Q vs H2) → ts σ H Q
/-- to a new list of such data -/
def EvNL (K : PySem.W.Frag) (te : TE) (σ : L2.St) (H0 : Hp) (ds : List PyData) : Prop := ∀ H, Same H0 H → ∀ Q : VK, (∀ p vs H1 H2, Same H H1 → Same H1 H2 → H1 p = none → H2 p = some (.lst vs) → DpNs K H1 vs ds → Q (.ref p) H2) → te σ H Q
section
variable {K : PySem.W.Frag} {σ : L2.St} {H0 : Hp} {d : PyData} {ds es : List PyData} {te tf : TE} {ts : TA}
theorem evn_non : EvN K (tC .non) σ H0 .none := fun H _ Q q => q _ H (Same.refl _) .non
theorem evn_int {i : Int} : EvN K (tC (.int i)) σ H0 (.int i) := fun H _ Q q => q _ H (Same.refl _) (.int i)
theorem evn_bl {b : Bool} : EvN K (tC (.bl b)) σ H0 (.bool b) := fun H _ Q q => q _ H (Same.refl _) (.bl b)
theorem evn_str {z : Str} : EvN K (tC (.str z)) σ H0 (.str z) := fun H _ Q q => q _ H (Same.refl _) (.str z)
theorem evn_neg {i : Int} : EvN K (tUn (rU fun i => .int (-i)) (tC (.int i))) σ H0 (.int (-i)) := fun H _ Q q => ⟨i, rfl, q _ H (Same.refl _) (.int _)⟩
theorem evn_vint {i : Nat} {n : Int} (e : σ[i]? = some (some (.int n))) : EvN K (tVar i) σ H0 (.int n) := fun H s Q q => ⟨_, e, q _ H (Same.refl _) (.int n)⟩
theorem evn_var {i : Nat} {v : V} (e : σ[i]? = some (some v)) (h : DpN K H0 v d) : EvN K (tVar i) σ H0 d := fun H s Q q => ⟨v, e, q v H (Same.refl _) (dpn_s s h)⟩
theorem evns_nil : EvNs K tNil σ H0 [] := fun H _ Q q => q [] H (Same.refl _) .nil
theorem evns_cons (x : EvN K te σ H0 d) (y : EvNs K ts σ H0 ds) : EvNs K (tCons te ts) σ H0 (d :: ds) := fun H s Q q => x H s _ fun v H1 s1 h1 => y H1 (s.trans s1) _ fun vs H2 s2 h2 => q _ H2 (s1.trans s2) (.cons (dpn_s s2 h1) h2)
theorem evn_tup (x : EvNs K ts σ H0 ds) (l : ds.length ≤ 1000) : EvN K (tTup ts) σ H0 (.tuple ds) := fun H s Q q => x H s _ fun vs H1 s1 h1 => ⟨sz (by rw [h1.len]; omega), fun p np => q _ _ (s1.trans (Same.new np)) (.tup (tupOf upd_same) (dpns_s (Same.new np) h1))⟩
theorem evnl_lst (x : EvNs K ts σ H0 ds) (l : ds.length ≤ 1000) : EvNL K (tLst ts) σ H0 ds := fun H s Q q => x H s _ fun vs H1 s1 h1 => ⟨sz (by rw [h1.len]; omega), fun p np => q p vs H1 _ s1 (Same.new np) np upd_same h1⟩
theorem evn_ofL (x : EvNL K te σ H0 ds) : EvN K te σ H0 (.list ds) := fun H s Q q => x H s _ fun p vs H1 H2 s1 s2 np hp h1 => q _ _ (s1.trans s2) (dpn_lst hp (dpns_s s2 h1))
theorem evn_lst (x : EvNs K ts σ H0 ds) (l : ds.length ≤ 1000) : EvN K (tLst ts) σ H0 (.list ds) := evn_ofL (evnl_lst x l)
theorem evnl_cat {i : Nat} {b : Addr} {xs : List V} (e : σ[i]? = some (some (.ref b))) (hb : H0 b = some (.lst xs)) (hx : DpNs K H0 xs ds) (y : EvNL K te σ H0 es) (l : ds.length + es.length ≤ 1000) : EvNL K (tOp rCat (tVar i) te) σ H0 (ds ++ es) := fun H s Q q => ⟨.ref b, e, y H s _ fun p vs H1 H2 s1 s2 np hp h1 => by
  refine w_cat (s2 _ _ (s1 _ _ (s _ _ hb))) hp (by rw [hx.len, h1.len]; omega) fun c nc => q c _ H2 _ (s1.trans s2) (Same.new nc) nc upd_same ?_
  exact (dpns_s ((s.trans s1).trans s2) hx).app (dpns_s s2 h1)⟩
theorem evn_tupleV {i : Nat} {a : Addr} {xs : List V} (e : σ[i]? = some (some (.ref a))) (ha : H0 a = some (.lst xs)) (hx : DpNs K H0 xs ds) : EvN K (tCB (cTuple K) (tCons (tVar i) tNil)) σ H0 (.tuple ds) := fun H s Q q =>
  ⟨.ref a, e, a, xs, rfl, .inl ⟨lstOf (s _ _ ha), fun t nt => q _ _ (Same.new nt) (.tup (tupOf upd_same) (dpns_s (s.trans (Same.new nt)) hx))⟩⟩
theorem evnl_from {i k : Nat} {a : Addr} {xs : List V} (e : σ[i]? = some (some (.ref a))) (ha : H0 a = some (.lst xs)) (hx : DpNs K H0 xs ds) {m : Int} (hm : m = (k : Int)) : EvNL K (tSl (rSlL K) (tVar i) (tPart (tC (.int m))) tNoPart) σ H0 (ds.drop k) := fun H s Q q => by
  subst hm
  refine w_sl ⟨.ref a, e, ⟨_, rfl, w_noPart ?_⟩⟩
  refine w_slLFrom (k := k) (lstOf (s _ _ ha)) fun p H2 s2 np hp => ?_
  exact q p _ H H2 (Same.refl _) s2 np hp ((dpns_s s hx).drop k)
theorem evn_ixV {i k : Nat} {a : Addr} {xs : List V} (e : σ[i]? = some (some (.ref a))) (ha : H0 a = some (.lst xs)) (hx : DpNs K H0 xs ds) {m : Int} (hm : m = (k : Int)) (hd : ds[k]? = some d) : EvN K (tOp (rIxL K) (tVar i) (tC (.int m))) σ H0 d := fun H s Q q => by
  obtain ⟨v, hv, hvd⟩ := hx.get hd
  exact ⟨.ref a, e, w_c (w_ixL (lstOf (s _ _ ha)) (at_of (j := k) hm hv) (q v H (Same.refl _) (dpn_s s hvd)))⟩
theorem evn_use {H : Hp} {Q : VK} (x : EvN K te σ H d) (q : ∀ v H2, Same H H2 → DpN K H2 v d → Q v H2) : te σ H Q := x H (Same.refl _) Q q
theorem evnl_use {H : Hp} {Q : VK} (x : EvNL K te σ H ds) (q : ∀ p vs H1 H2, Same H H1 → Same H1 H2 → H1 p = none → H2 p = some (.lst vs) → DpNs K H1 vs ds → Q (.ref p) H2) : te σ H Q := x H (Same.refl _) Q q
end
/-! ### rows of numbers -/
/-- a list of lists of ints at F, its rows at as -/
structure MatAt (H : Hp) (F : Addr) (as : List Addr) (m : List (List Int)) : Prop where
  lst : H F = some (.lst (as.map V.ref))
  len : as.length = m.length
  row : ∀ (j : Nat) (b : Addr) (r : List Int), as[j]? = some b → m[j]? = some r → H b = some (.lst (r.map V.int))
section
variable {K : PySem.W.Frag} {H H1 H2 : Hp} {F : Addr} {as : List Addr} {m : List (List Int)} {σ : L2.St} {Q : VK}
theorem MatAt.keep (M : MatAt H F as m) (k : ∀ b xs, (b = F ∨ b ∈ as) → H b = some (.lst xs) → H1 b = some (.lst xs)) : MatAt H1 F as m :=
  ⟨k _ _ (.inl rfl) M.lst, M.len, fun j b r h1 h2 => k _ _ (.inr (List.mem_of_getElem? h1)) (M.row j b r h1 h2)⟩
theorem MatAt.s (M : MatAt H F as m) (s : Same H H1) : MatAt H1 F as m := M.keep fun b xs _ h => s _ _ h
theorem MatAt.kds {A : Addr → Prop} (M : MatAt H F as m) (n : ∀ b ∈ as, ¬ A b) : KDs K A H (as.map V.ref) (m.map fun r => .list (r.map PyData.int)) := by
  refine KDs.of_get (by simp [M.len]) fun j v d h1 h2 => ?_
  rw [List.getElem?_map] at h1 h2
  obtain ⟨b, hb, rfl⟩ := Option.map_eq_some_iff.mp h1
  obtain ⟨r, hr, rfl⟩ := Option.map_eq_some_iff.mp h2
  exact .lst (n b (List.mem_of_getElem? hb)) (lstOf (M.row j b r hb hr)) (kds_ints r)
theorem MatAt.dpns (M : MatAt H F as m) : DpNs K H (as.map V.ref) (m.map fun r => .list (r.map PyData.int)) := M.kds fun b hb z => by
  obtain ⟨j, hj, e⟩ := List.mem_iff_getElem.mp hb
  have hjm : j < m.length := by rw [← M.len]; exact hj
  have := M.row j b m[j] (by rw [← e]; exact List.getElem?_eq_getElem hj) (List.getElem?_eq_getElem hjm)
  rw [z] at this
  cases this
theorem MatAt.dpn (M : MatAt H F as m) : DpN K H (.ref F) (.list (m.map fun r => .list (r.map PyData.int))) := dpn_lst M.lst M.dpns
/-- [list(row) for row in ..] -/
theorem lc_copy {i : Nat} (M : MatAt H F as m) (h6 : m.length ≤ 1000) (hw : ∀ x, wipe ((wipe σ [i]).set i (some x)) [i] = wipe σ [i]) (hv : ∀ x, ((wipe σ [i]).set i (some x))[i]? = some (some x))
    (q : ∀ (C : Addr) (cs : List Addr) (H2 : Hp), H C = none → Same H H2 → MatAt H2 C cs m → cs.Nodup → (∀ b ∈ cs, H b = none ∧ b ≠ C) → Q (.ref C) H2) :
    LcGoal (Itl K F) (gName i) tYes (tCB (cList K) (tCons (tVar i) tNil)) [i] σ H Q := by
  refine lc_go (walk_list (K := K) (a := F) (xs := as.map V.ref)) (by rw [List.length_map, M.len]; omega) (fun C j acc H' => Same H H' ∧ ∃ cs : List Addr, acc = cs.map V.ref ∧ cs.length = j ∧ cs.Nodup ∧ (∀ b ∈ cs, H b = none ∧ b ≠ C) ∧ ∀ (k : Nat) (b : Addr) (r : List Int), cs[k]? = some b → m[k]? = some r → H' b = some (.lst (r.map V.int)))
    (fun C hC => ⟨Same.new hC, [], rfl, rfl, .nil, fun b hb => by simp at hb, fun k b r h => by simp at h⟩) (fun C j acc H' hC _ iv => lstOf (iv.1 _ _ M.lst)) ?_ ?_
  · rintro C j acc x H' H'' hC hj hacc hH' ⟨s1, cs, rfl, hl, hnd, hf, hrow⟩ ⟨rfl, hx⟩
    rw [List.getElem?_map] at hx
    obtain ⟨b, hb, rfl⟩ := Option.map_eq_some_iff.mp hx
    rw [List.length_map] at hj
    have hjm : j < m.length := by rw [← M.len]; exact hj
    have hr := M.row j b m[j] hb (List.getElem?_eq_getElem hjm)
    refine w_name ⟨hw _, w_yes (if_t rfl (w_cb (w_cons ⟨_, hv _, w_nil ?_⟩)))⟩
    refine ⟨b, m[j].map V.int, rfl, .inl (lstOf (s1 _ _ hr)), fun c nc => ?_⟩
    have sc : Same H'' (upd H'' c (.lst (m[j].map V.int))) := Same.new nc
    have nC : c ≠ C := fun z => by rw [z, hH'] at nc; cases nc
    refine lc_nx (by omega) hacc (sc _ _ hH') ⟨fun b' o e => ?_, cs ++ [c], by simp, by simp [hl], ?_, fun b' hb' => ?_, fun k b' r h1 h2 => ?_⟩
    · rw [upd_ne (ne_of_none e hC)]
      exact sc _ _ (s1 _ _ e)
    · rw [List.nodup_append]
      refine ⟨hnd, by simp, fun u hu w hw2 => ?_⟩
      cases List.mem_singleton.mp hw2
      intro z
      subst z
      obtain ⟨k, hk, e⟩ := List.mem_iff_getElem.mp hu
      have := hrow k u m[k] (by rw [← e]; exact List.getElem?_eq_getElem hk) (List.getElem?_eq_getElem (by omega))
      rw [nc] at this
      cases this
    · rcases List.mem_append.mp hb' with hb' | hb'
      · exact hf b' hb'
      · cases List.mem_singleton.mp hb'
        exact ⟨s1.free nc, nC⟩
    · rcases Nat.lt_or_ge k cs.length with hk | hk
      · rw [List.getElem?_append_left hk] at h1
        have := hf b' (List.mem_of_getElem? h1)
        rw [upd_ne this.2]
        exact sc _ _ (hrow k b' r h1 h2)
      · have hk2 : k = cs.length := by
          have := (List.getElem?_eq_some_iff.mp h1).1
          simp at this
          omega
        subst hk2
        rw [List.getElem?_append_right (Nat.le_refl _)] at h1
        have eb : c = b' := by simpa using h1
        subst eb
        rw [hl, List.getElem?_eq_getElem hjm] at h2
        cases h2
        rw [upd_ne nC, upd_same]
  · rintro C acc H' hC hH' _ ⟨s1, cs, rfl, hl, hnd, hf, hrow⟩
    rw [List.length_map] at hl
    exact q C cs H' hC s1 ⟨hH', by rw [hl, M.len], hrow⟩ hnd hf
/-- [[e for p in range(n)] for l in range(k)] while dice are thrown -/
theorem lc_mat (K : PySem.W.Frag) {a : Addr} {te : TE} {il ip n k : Nat} {kk nn : Int} (ek : kk = (k : Int)) (en : nn = (n : Int)) (hk1 : k ≤ 1000) (hn1 : n ≤ 1000) (hd : Dice H a) (P : Nat → Nat → Int → Prop)
    (hw1 : ∀ x, wipe ((wipe σ [il]).set il (some x)) [il] = wipe σ [il]) (hw2 : ∀ x y, wipe ((wipe ((wipe σ [il]).set il (some x)) [ip]).set ip (some y)) [ip] = wipe ((wipe σ [il]).set il (some x)) [ip])
    (he : ∀ (l p : Nat) (H' : Hp) (Qe : VK), l < k → p < n → But a H H' → (∀ x H'', But a H' H'' → P l p x → Qe (.int x) H'') → te ((wipe ((wipe σ [il]).set il (some (.int (0 + (l : Int))))) [ip]).set ip (some (.int (0 + (p : Int))))) H' Qe)
    (q : ∀ (F : Addr) (as : List Addr) (m : List (List Int)) (H2 : Hp), H F = none → But a H H2 → F ≠ a → MatAt H2 F as m → m.length = k → (∀ r ∈ m, r.length = n) → (∀ b ∈ as, H b = none ∧ b ≠ F ∧ b ≠ a) → (∀ l p : Nat, l < k → p < n → P l p ((m.getD l []).getD p 0)) → Q (.ref F) H2) :
    LcGoal (Itr 0 kk.toNat) (gName il) tYes (tLc (iRng1 (tCons (tC (.int nn)) tNil)) (gName ip) tYes te [ip]) [il] σ H Q := by
  subst ek en
  rw [Int.toNat_natCast]
  refine lc_go walk_range (by omega) (fun F i acc H' => But a H H' ∧ F ≠ a ∧ ∃ (as : List Addr) (m : List (List Int)), acc = as.map V.ref ∧ as.length = i ∧ m.length = i ∧ (∀ b ∈ as, H b = none ∧ b ≠ F ∧ b ≠ a) ∧ (∀ r ∈ m, r.length = n) ∧ (∀ (j : Nat) (b : Addr) (r : List Int), as[j]? = some b → m[j]? = some r → H' b = some (.lst (r.map V.int))) ∧ ∀ l p : Nat, l < i → p < n → P l p ((m.getD l []).getD p 0))
    (fun F hF => ⟨But.of hd (Same.new hF), hd.ne hF, [], [], rfl, rfl, rfl, by simp, by simp, by simp, fun l p h => by omega⟩) (fun _ _ _ _ _ _ _ => trivial) ?_ ?_
  · rintro F i acc x H' H'' hF hi hacc hH' ⟨b1, nF, as, m, rfl, hl, hml, hf, hr, hrow, hP⟩ ⟨rfl, rfl⟩
    refine w_name ⟨hw1 _, w_yes (if_t rfl (w_lc (w_rng1 (w_cons (w_c (w_nil ⟨_, rfl, by omega, by omega, ?_⟩))))))⟩
    rw [Int.toNat_natCast]
    refine lc_dice (K := K) walk_range (by omega) (fun j ds => ∃ ns : List Int, ds = ns.map PyData.int ∧ ns.length = j ∧ ∀ p, p < j → P i p (ns.getD p 0)) b1.d1 ⟨[], rfl, rfl, fun p h => by omega⟩ (fun _ _ => trivial) ?_ ?_
    · rintro C j acc2 y G' G'' hC hj hacc2 hG' ⟨b2, nC, ds, h1, h2, ns, rfl, hnl, hnP⟩ ⟨rfl, rfl⟩
      refine w_name ⟨hw2 _ _, w_yes (if_t rfl (he i j G'' _ hi hj (b1.trans b2) fun x H3 b3 hx => ?_))⟩
      refine lcr_nx hC (by omega) hacc2 hG' b2 nC h1 h2 b3 (.int x) rfl ⟨ns ++ [x], by rw [List.map_append]; rfl, by simp [hnl], fun p hp => ?_⟩
      rcases Nat.lt_or_ge p ns.length with h | h
      · rw [List.getD_eq_getElem?_getD, List.getElem?_append_left h, ← List.getD_eq_getElem?_getD]
        exact hnP p (by omega)
      · have : p = j := by omega
        subst this
        rw [List.getD_eq_getElem?_getD, ← hnl, List.getElem?_append_right (Nat.le_refl _)]
        simpa [hnl] using hx
    · rintro C acc2 ds G hC b2 nC hG h1 _ ⟨ns, rfl, hnl, hnP⟩
      have e := dpAll_intsV h1
      subst e
      have nCF : C ≠ F := (ne_of_none hH' hC).symm
      have hFG := b2.kp _ _ hH' nF
      refine lc_nx (by omega) hacc hFG ⟨(b1.trans b2).mut hF nF, nF, as ++ [C], m ++ [ns], by simp, by simp [hl], by simp [hml], fun b hb => ?_, fun r hr2 => ?_, fun j b r h3 h4 => ?_, fun l p hl2 hp => ?_⟩
      · rcases List.mem_append.mp hb with hb | hb
        · exact hf b hb
        · cases List.mem_singleton.mp hb
          exact ⟨b1.free hC, nCF, nC⟩
      · rcases List.mem_append.mp hr2 with hr2 | hr2
        · exact hr r hr2
        · cases List.mem_singleton.mp hr2
          exact hnl
      · rcases Nat.lt_or_ge j as.length with hj | hj
        · rw [List.getElem?_append_left hj] at h3
          rw [List.getElem?_append_left (by omega)] at h4
          have hfb := hf b (List.mem_of_getElem? h3)
          rw [upd_ne hfb.2.1]
          exact b2.kp _ _ (hrow j b r h3 h4) hfb.2.2
        · have hj2 : j = as.length := by
            have := (List.getElem?_eq_some_iff.mp h3).1
            simp at this
            omega
          subst hj2
          rw [List.getElem?_append_right (Nat.le_refl _)] at h3
          have eb : C = b := by simpa using h3
          subst eb
          rw [hl, ← hml, List.getElem?_append_right (Nat.le_refl _)] at h4
          have er : ns = r := by simpa using h4
          subst er
          rw [upd_ne nCF]
          exact hG
      · rcases Nat.lt_or_ge l m.length with h | h
        · rw [List.getD_eq_getElem?_getD (l := m ++ [ns]), List.getElem?_append_left h, ← List.getD_eq_getElem?_getD]
          exact hP l p (by omega) hp
        · have e : l = m.length := by omega
          subst e
          rw [List.getD_eq_getElem?_getD (l := m ++ [ns]), List.getElem?_append_right (Nat.le_refl _)]
          have := hnP p hp
          rw [← hml] at this
          simpa using this
  · rintro F acc H' hF hH' _ ⟨b1, nF, as, m, rfl, hl, hml, hf, hr, hrow, hP⟩
    exact q F as m H' hF b1 nF ⟨hH', by rw [hl, hml], hrow⟩ hml hr hf hP
end
end RG
namespace RG
open PySem PySem.Spec PyProof.Rows L2 LamX
theorem Fnd.s {K : PySem.W.Frag} {T : List (Addr × Str)} {H0 H H2 : Hp} {F : Addr} {cs : List PyData} (f : Fnd K T H0 F cs H) (s : Same H H2) : Fnd K T H0 F cs H2 := by
  obtain ⟨xs, h1, h2⟩ := f.is
  exact ⟨f.ex.same s, f.nw, ⟨xs, s _ _ h1, dps_s s h2⟩, f.im⟩
theorem fnd_appK {K : PySem.W.Frag} {T : List (Addr × Str)} {H0 H1 H : Hp} {F : Addr} {v : V} {d : PyData} {cs : List PyData} {Q : VK} (f : Fnd K T H0 F cs H1) (e : ExT T H1 H) (hv : Dp K H v d) (hi : imm d = true) (hl : cs.length < 1000) (q : ∀ H2, Fnd K T H0 F (cs ++ [d]) H2 → KpB (fun b => b = F) H1 H2 → Q .non H2) : rAppend (.ref F) [v] H Q := by
  obtain ⟨xs, hF, hx⟩ := f.is
  have hF2 := lst_eT e hF
  have hx2 := dps_eT e hx
  have him : immAll (cs ++ [d]) = true := by
    rw [immAll_app, f.im]
    simp [immAll, hi]
  refine w_app hF2 (by rw [dpAll_len hx]; omega) (q _ ⟨(f.ex.trans e).mut f.nw hF2, f.nw, ⟨_, upd_same, dpAll_mut hF2 him (dpAll_app hx2 (.cons hv .nil))⟩, him⟩ fun b o h n m => ?_)
  rw [upd_ne n]
  exact e.ex b o h m
theorem eqv_refD (c : Str) : PyData.eqv (refD c) (refD c) = true := by simp [PyData.eqv, PyData.eqvAll]
theorem gd_refs {c : Str} {n : Nat} (hc : PyData.canLay0 (.str c) = true) (hn : n ≤ 1000) : Gd 64 (.list (List.replicate n (refD c))) := gd_list (n := 63) (gds_mem fun d hd => by
  cases (List.mem_replicate.mp hd).2
  exact gd_tup (gds_cons (gd_str (by decide +kernel)) (gds_cons (gd_str hc) gds_nil)) (by simp)) (by rw [List.length_replicate]; exact hn)
/-- found != [("refused", c)] * len(found), all of found being so -/
theorem w_allRef {K : PySem.W.Frag} {T : List (Addr × Str)} {σ : L2.St} {H0 H : Hp} {F : Addr} {c : Str} {n i : Nat} {Q : VK} (f : Fnd K T H0 F (List.replicate n (refD c)) H) (hc : PyData.canLay0 (.str c) = true) (hn : n ≤ 1000) (e : σ[i]? = some (some (.ref F))) (q : ∀ H2, Same H H2 → Q (.bl false) H2) :
    tOp (rNeD K) (tVar i) (tOp rRep (tLst (tCons (tTup (tCons (tC (.str "refused")) (tCons (tC (.str c)) tNil))) tNil)) (tCB (cLen K) (tCons (tVar i) tNil))) σ H Q := by
  obtain ⟨xs, hF, hx⟩ := f.is
  have hl := dpAll_len hx
  rw [List.length_replicate] at hl
  refine w_op ⟨_, e, w_op ?_⟩
  refine evl_use (K := K) (evl_lst (evds_cons (evd_tup (evds_cons evd_str (evds_cons evd_str evds_nil)) (len_ok rfl)) evds_nil) (len_ok rfl)) fun p vs H1 s1 np hp hv => ?_
  refine w_cb (w_cons ⟨_, e, w_nil (w_lenL (lstOf (s1 _ _ hF)) ?_)⟩)
  rw [hl]
  have hvl := dpAll_len hv
  refine ⟨p, (n : Nat), vs, rfl, rfl, hp, by omega, by omega, sz (by rw [Int.toNat_natCast, hvl]; simp; omega), fun r nr => ?_⟩
  rw [Int.toNat_natCast]
  have sr : Same H1 (upd H1 r (.lst (List.replicate n vs).flatten)) := Same.new nr
  have hd : DpAll K (upd H1 r (.lst (List.replicate n vs).flatten)) (List.replicate n vs).flatten (List.replicate n [refD c]).flatten := dpAll_rep (dps_s sr hv) n
  rw [show (List.replicate n [refD c]).flatten = List.replicate n (refD c) by simp] at hd
  have g := gd_refs (n := n) hc hn
  refine w_neD (dp_s (s1.trans sr) f.dp) (.lst (lstOf upd_same) hd) g.sh g.sh ?_
  rw [eqv_listSelf fun d hd => by
    cases (List.mem_replicate.mp hd).2
    exact eqv_refD c]
  exact q _ (s1.trans sr)
end RG
/-! ### boards: dict(d), ",".join(xs), methods with a default, an exception with its own __init__ -/
namespace RG
open PySem PySem.Spec PyProof.Rows L2
/-- dict(d) -/
def rDictD : List V → Hp → VK → Prop := fun xs H Q => ∃ (a : Addr) (kvs : List (Key × V)), xs = [.ref a] ∧ Rd H a (.dK kvs) ∧ ∀ p, H p = none → Q (.ref p) (upd H p (.dK kvs))
/-- x.join(xs) -/
def rJoin (K : PySem.W.Frag) : V → List V → Hp → VK → Prop := fun x xs H Q => ∃ a p, ∃ ys : List Str, x = .str a ∧ xs = [.ref p] ∧ (SqL K H p (ys.map V.str) ∨ SqT K H p (ys.map V.str)) ∧ (ys.map (·.length)).sum + ys.length * a.length ≤ 16777216 ∧ Q (.str (Txt.join a ys)) H
section
variable {K : PySem.W.Frag} {σ : L2.St} {H : Hp} {Q : VK} {td ty to te : TE} {a : Addr}
theorem w_dictD {kvs : List (Key × V)} (e : Rd H a (.dK kvs)) (q : ∀ p H2, Same H H2 → H p = none → H2 p = some (.dK kvs) → Q (.ref p) H2) : rDictD [.ref a] H Q := ⟨a, kvs, rfl, e, fun p np => q p _ (Same.new np) np upd_same⟩
theorem w_m1 {r : V → List V → Hp → VK → Prop} (h : to σ H fun x H1 => (∃ a, x = .str a) ∧ te σ H1 fun y H2 => r x [y] H2 Q) : tM1 r to te σ H Q := h
theorem w_join {x : Str} {ys : List Str} (e : SqL K H a (ys.map V.str)) (hl : (ys.map (·.length)).sum + ys.length * x.length ≤ 16777216) (q : Q (.str (Txt.join x ys)) H) : rJoin K (.str x) [.ref a] H Q := ⟨x, a, ys, rfl, rfl, .inl e, hl, q⟩
theorem w_dpop1 (h : td σ H fun x H1 => ∃ a, x = .ref a ∧ IsD H1 a ∧ ty σ H1 fun y H2 => ∃ kvs k v, H2 a = some (.dK kvs) ∧ y = kV k ∧ valV kvs k = some v ∧ Q v (upd H2 a (.dK (dropK kvs k)))) : tDPop1 td ty σ H Q := h
theorem w_while {c : TT} {tb : TS} {D : Ends} (Pv : Nat → L2.St → Hp → Prop) {m0 : Nat} (h0 : Pv m0 σ H)
    (hs : ∀ m σ H, Pv m σ H → c σ H fun b H1 => if b = true then ∃ N : L2.St → Hp → Prop, (∀ σ' H', N σ' H' → ∃ m', m' < m ∧ Pv m' σ' H') ∧ tb { D with nx := N, ct := N, bk := D.nx } σ H1 else D.nx σ H1) : tWhile c tb D σ H := ⟨Pv, ⟨m0, h0⟩, hs⟩
end
/-! a method with one default -/
abbrev FnAtD (K : PySem.W.Frag) (C m qn : Str) (st : Stmt) (dv : V) : Prop := ∃ fd, FunD K m qn (defArgs st) (defBody st) (defScope st) [dv] [] (He.ma K (He.ga K C) m) fd
structure OkMD (P : Program) (w : World) (K : PySem.W.Frag) (mg : Str → Option Value) (base : Heap) (k : Nat) (C m : Str) (ps : List Str) (sp : Sp) (n : Nat) (kn : Str) (dv : V) : Prop where
  me : Meth K (He.ga K C) m (He.ma K (He.ga K C) m)
  ex : ∃ fd, FnOk P w K mg base (CXN P w) k (He.ma K (He.ga K C) m) fd ps sp ∧ Binds K fd ps [] ∧ (∃ ds, Vals [dv] ds ∧ Binds K fd ps ds) ∧ ∃ g, KBn K fd ps n [kn] g (fun vs zs => vs ++ zs)
section
variable {P : Program} {w : World} {K : PySem.W.Frag} {mg : Str → Option Value} {base : Heap}
theorem OkMD.mk' {C m qn kn : Str} {st : Stmt} {N ps : List Str} {k n : Nat} {sp : Sp} {dv : V} (M : Meth K (He.ga K C) m (He.ma K (He.ga K C) m)) (F : FnAtD K C m qn st dv) (hn : n + 1 = ps.length)
    (b1 : ∀ (T : Addr) (kV doc pm : Value) (an : Option Addr) (cdv ct : Value) (us its : List Value), us.length = n → its.length = 1 → ∃ k, bindArgs (PySem.W.fnOf m qn (defArgs st) (defBody st) (defScope st) (.ref T) kV doc pm an cdv ct) ⟨us, []⟩ = seqItems? (.ref T) >>= k ∧ k (some its.toArray) = pure (ps.zip (us ++ its)))
    (b2 : ∀ (T : Addr) (kV doc pm : Value) (an : Option Addr) (cdv ct : Value) (us its : List Value), us.length = n + 1 → its.length = 1 → ∃ k, bindArgs (PySem.W.fnOf m qn (defArgs st) (defBody st) (defScope st) (.ref T) kV doc pm an cdv ct) ⟨us, []⟩ = seqItems? (.ref T) >>= k ∧ k (some its.toArray) = pure (ps.zip us))
    (b3 : ∀ (T : Addr) (kV doc pm : Value) (an : Option Addr) (cdv ct : Value) (us its ws : List Value), us.length = n → its.length = 1 → ws.length = 1 → ∃ k, bindArgs (PySem.W.fnOf m qn (defArgs st) (defBody st) (defScope st) (.ref T) kV doc pm an cdv ct) ⟨us, [kn].zip ws⟩ = seqItems? (.ref T) >>= k ∧ k (some its.toArray) = pure (ps.zip (us ++ ws)))
    (S : FnScope N ps (defScope st)) (len : ∀ vs H Q E, sp vs H Q E → vs.length = ps.length)
    (body : ∀ (cdv : Value) (A : Around) (outer : List Env) (s : Shared) (H : Hp) (vs : List V) (Q : VK) (E : XK), Room k (A.deeper (envOfC qn (defScope st) s.heap.objs.size (He.ma K (He.ga K C) m) cdv)) → sp vs H Q E →
      ∃ t, PSs (cxOf (CXN P w) P w K mg base N qn (defScope st) (He.ma K (He.ga K C) m) cdv A outer s H E) (defBody st) t ∧ t { nx := fun _ H' => Q .non H', rt := Q } (start N vs) H) : OkMD P w K mg base (k + 1) C m ps sp n kn dv := by
  obtain ⟨fd, F⟩ := F
  obtain ⟨d1, v1, B1⟩ := F.binds1 (ps := ps) n 0 (by simp) (by simp; omega) fun T kV doc pm an cdv ct us its h1 h2 => by
    rw [List.drop_zero]
    exact b1 T kV doc pm an cdv ct us its h1 h2
  obtain ⟨d2, v2, B2⟩ := F.binds1 (ps := ps) (n + 1) 1 (by simp) (by simp; omega) fun T kV doc pm an cdv ct us its h1 h2 => by
    rw [List.drop_of_length_le (by rw [h2]; exact Nat.le_refl 1), List.append_nil]
    exact b2 T kV doc pm an cdv ct us its h1 h2
  have e2 : d2 = [] := by
    cases v2
    rfl
  subst e2
  obtain ⟨its, B3⟩ := F.kbindsD (ps := ps) n [kn] (fun us _ ws => us ++ ws) (by simp) (fun a _ c => a.append c) fun T kV doc pm an cdv ct us its ws h1 h2 h3 => b3 T kV doc pm an cdv ct us its ws h1 h2 h3
  exact ⟨M, fd, F.ok S len body, B2, ⟨d1, v1, B1⟩, _, B3⟩
end
/-- o.m(e, .., k = v) -/
def tMethN (C : Addr) (m : Str) (n : Nat) (sp : Sp) (E : XK) (to : TE) (t tk : TA) : TE := fun σ H Q => to σ H fun x H1 => ∃ a dx fs, x = .ref a ∧ H1 a = some (.ins C dx fs) ∧ fs.lookup m = none ∧ t σ H1 fun vs H2 => tk σ H2 fun zs H3 => (x :: vs).length = n ∧ zs.length = 1 ∧ sp (x :: vs ++ zs) H3 Q E
theorem w_methN {C : Addr} {m : Str} {n : Nat} {sp : Sp} {E : XK} {to : TE} {t tk : TA} {σ : L2.St} {H : Hp} {Q : VK} (h : to σ H fun x H1 => ∃ a dx fs, x = .ref a ∧ H1 a = some (.ins C dx fs) ∧ fs.lookup m = none ∧ t σ H1 fun vs H2 => tk σ H2 fun zs H3 => (x :: vs).length = n ∧ zs.length = 1 ∧ sp (x :: vs ++ zs) H3 Q E) : tMethN C m n sp E to t tk σ H Q := h
theorem w_methD {C : Addr} {m : Str} {sp : Sp} {E : XK} {ta : TE} {t : TA} {dvs : List V} {σ : L2.St} {H : Hp} {Q : VK} (h : ta σ H fun x H1 => ∃ a dx fs, x = .ref a ∧ H1 a = some (.ins C dx fs) ∧ fs.lookup m = none ∧ t σ H1 fun vs H2 => sp (x :: (vs ++ dvs)) H2 Q E) : tMeth C m sp dvs E ta t σ H Q := h
section
variable {X : Cx} {j k n : Nat} {C m kn : Str} {ps : List Str} {sp : Sp} {E : XK} {apos pos : Pos} {o e : Expr} {es : List Expr} {to : TE} {t tk : TA} {dv : V}
/-- all written -/
theorem pe_md2 {pl : Sem Bool} (G : OkMD X.prog X.w X.K X.mg X.base j C m ps sp n kn dv) (c : Cls X.K (He.ga X.K C)) (hr : Room k X.A) (hx : Passes (CXN X.prog X.w) X E) (ho : PE X o to) (ha : PA X (e :: es) t)
    (hk : j ≤ k := by first | decide | omega) (he : starEach (e :: es) X.env = (false, eval e X.env) :: starEach es X.env := by rfl) (hpl : (backTo pos (starEach es X.env)).any (·.1) = false := by rfl)
    (ht : eval (.Call (.Attribute o m apos) (e :: es) [] pos) X.env = (do
      let ov ← eval o X.env
      standAt apos.atName
      let (f, first) ← holding [ov] (getMethod ov m pl)
      callWith pos f first (backTo pos (starEach (e :: es) X.env)) (backToKw pos (keywordEach [] X.env))) := by rfl) :
    PE X (.Call (.Attribute o m apos) (e :: es) [] pos) (tMeth (He.ga X.K C) m sp [] E to t) := by
  obtain ⟨me, fd, F, b, _⟩ := G
  exact pe_meth (pl := pl) ho c me F (hr.mono hk) b .nil hx ha he hpl ht
/-- the default fills up -/
theorem pe_md1 {pl : Sem Bool} (G : OkMD X.prog X.w X.K X.mg X.base j C m ps sp n kn dv) (c : Cls X.K (He.ga X.K C)) (hr : Room k X.A) (hx : Passes (CXN X.prog X.w) X E) (ho : PE X o to) (ha : PA X (e :: es) t)
    (hk : j ≤ k := by first | decide | omega) (he : starEach (e :: es) X.env = (false, eval e X.env) :: starEach es X.env := by rfl) (hpl : (backTo pos (starEach es X.env)).any (·.1) = false := by rfl)
    (ht : eval (.Call (.Attribute o m apos) (e :: es) [] pos) X.env = (do
      let ov ← eval o X.env
      standAt apos.atName
      let (f, first) ← holding [ov] (getMethod ov m pl)
      callWith pos f first (backTo pos (starEach (e :: es) X.env)) (backToKw pos (keywordEach [] X.env))) := by rfl) :
    PE X (.Call (.Attribute o m apos) (e :: es) [] pos) (tMeth (He.ga X.K C) m sp [dv] E to t) := by
  obtain ⟨me, fd, F, _, ⟨ds, v, b⟩, _⟩ := G
  exact pe_meth (pl := pl) ho c me F (hr.mono hk) b v hx ha he hpl ht
/-- by keyword -/
theorem pe_mdk {pl : Sem Bool} {kws : List Keyword} (G : OkMD X.prog X.w X.K X.mg X.base j C m ps sp n kn dv) (c : Cls X.K (He.ga X.K C)) (hr : Room k X.A) (hx : Passes (CXN X.prog X.w) X E) (ho : PE X o to) (ha : PA X (e :: es) t) (hkw : PK X kws tk)
    (hk : j ≤ k := by first | decide | omega) (hall : (backToKw pos (keywordEach kws X.env)).all (·.1.isSome) = true := by rfl) (hks : (backToKw pos (keywordEach kws X.env)).filterMap (·.1) = [kn] := by rfl) (he : starEach (e :: es) X.env = (false, eval e X.env) :: starEach es X.env := by rfl)
    (hpl : ((backTo pos (starEach (e :: es) X.env)).any (·.1) || (backToKw pos (keywordEach kws X.env)).any (·.1.isNone)) = false := by rfl)
    (ht : eval (.Call (.Attribute o m apos) (e :: es) kws pos) X.env = (do
      let ov ← eval o X.env
      standAt apos.atName
      let (f, first) ← holding [ov] (getMethod ov m pl)
      callWith pos f first (backTo pos (starEach (e :: es) X.env)) (backToKw pos (keywordEach kws X.env))) := by rfl) :
    PE X (.Call (.Attribute o m apos) (e :: es) kws pos) (tMethN (He.ga X.K C) m n sp E to t tk) := by
  obtain ⟨me, fd, F, _, _, g, b⟩ := G
  refine ⟨fun pins s σ H Q I h => ?_⟩
  refine PySem.W.methodCall_KW (pl := pl) (thn (ho.run pins s σ H _ I h) fun u s1 ⟨x, H1, I1, rx, a, dx, fs, ex, ea, l, q⟩ => ?_) ht
  subst ex
  obtain rfl : u = Value.ref a := rx
  refine getmeth_ok I1 ea c me l ?_
  refine PySem.W.callWith_KW (first := [.ref a]) (h₀ := X.base) I.ok.mod.kin me.kp hall (thn (ha.run pos pins s1 σ H1 _ I1 q) fun us s2 ⟨vs, H2, I2, r, q2⟩ => ?_) hpl he
  refine thn (hkw.run pos pins s2 σ H2 _ I2 q2) fun ws s3 ⟨zs, H3, I3, rz, l1, l2, q3⟩ => ⟨I3.kIn, ?_⟩
  rw [hks]
  exact run_fnN (us := .ref a :: us) (vs := .ref a :: vs) F (hr.mono hk) b hx I3 (.cons rfl r) rz l1 l2 q3
end
/-! ### raise Needed(by) -/
/-- what the head says of Needed and GateError -/
def oexB (K : PySem.W.Frag) (C : Addr) : Bool := (match K.lookup C with
  | some ⟨.type "type", _, .cls cd, sl⟩ => (match cd.mro, sl.toList with
    | .ref C' :: bm, [_, _, _, _, some (.builtin n), _] => decide (C' = C) && (decide (n = "ValueError.__new__") && (!cd.hasDel && (cd.hasDict && PySem.HandSPX.refsVE bm)))
    | _, _ => false)
  | _ => false) && (decide (PySem.W.findIn K (.ref C) "__setattr__" = some (some (.builtin "object.__setattr__"))) && (decide (PySem.W.subIn K (.ref C) (.type "BaseException") = some true) && (decide (PySem.W.typeIn K (.ref C) = some (.type "type")) && PySem.W.keepIn K (.ref C))))
theorem oexB_ok {K : PySem.W.Frag} {C : Addr} (h : oexB K C = true) : OexC K C := by
  unfold oexB at h
  simp only [Bool.and_eq_true, decide_eq_true_eq] at h
  obtain ⟨h0, h1, h2, h3, h4⟩ := h
  refine ⟨?_, h1, h2, h3, h4⟩
  split at h0
  · rename_i dd cd sl ho
    split at h0
    · rename_i C' bm k0 k1 k2 k3 n k5 hm hs
      simp only [Bool.and_eq_true, decide_eq_true_eq, Bool.not_eq_true'] at h0
      obtain ⟨rfl, rfl, hdel, hdict, ht⟩ := h0
      obtain ⟨nm, bs, mro, ns, qn, hd, sn, sub, ab, col, del⟩ := cd
      dsimp only at hm hdel hdict
      subst hm hdel hdict
      have hsl : sl = #[k0, k1, k2, k3, some (.builtin "ValueError.__new__"), k5] := by
        obtain ⟨l⟩ := sl
        simp only at hs
        rw [hs]
      subst hsl
      exact ⟨nm, qn, ns, bs, bm, sn, sub, ab, col, dd, k0, k1, k2, k3, k5, ho, ht⟩
    · cases h0
  · cases h0
def needB (K : PySem.W.Frag) : Bool := oexB K (He.ga K "Needed") && (decide (PySem.W.findIn K (.ref (He.ga K "Needed")) "__init__" = some (some (.ref (He.ma K (He.ga K "Needed") "__init__")))) && (decide (PySem.W.typeIn K (.ref (He.ma K (He.ga K "Needed") "__init__")) = some (.type "function")) && (decide (PySem.W.findIn K (.ref (He.ga K "Needed")) "by" = some none) &&
  (PySem.W.readsIn K (He.ga K "GateError") (.type "type") && (decide (PySem.W.specialIn K (.ref (He.ga K "GateError")) "__getattribute__" = some (some (.builtin "type.__getattribute__"))) && (match PySem.W.findCls K (.ref (He.ga K "GateError")) (.type "type") "__init__" with
  | some (.val (.builtin z)) => decide (z = "ValueError.__init__")
  | _ => false))))))
structure NeedC (K : PySem.W.Frag) : Prop where
  oex : OexC K (He.ga K "Needed")
  ini : PySem.W.findIn K (.ref (He.ga K "Needed")) "__init__" = some (some (.ref (He.ma K (He.ga K "Needed") "__init__")))
  tyf : PySem.W.typeIn K (.ref (He.ma K (He.ga K "Needed") "__init__")) = some (.type "function")
  by_ : PySem.W.findIn K (.ref (He.ga K "Needed")) "by" = some none
  rd : PySem.W.readsIn K (He.ga K "GateError") (.type "type") = true
  sp : PySem.W.specialIn K (.ref (He.ga K "GateError")) "__getattribute__" = some (some (.builtin "type.__getattribute__"))
  fd : PySem.W.findCls K (.ref (He.ga K "GateError")) (.type "type") "__init__" = some (.val (.builtin "ValueError.__init__"))
theorem needB_ok {K : PySem.W.Frag} (h : needB K = true) : NeedC K := by
  simp only [needB, Bool.and_eq_true, decide_eq_true_eq] at h
  obtain ⟨h1, h2, h3, h4, h5, h6, h7⟩ := h
  refine ⟨oexB_ok h1, h2, h3, h4, h5, h6, ?_⟩
  split at h7
  · rename_i z e
    rw [e, of_decide_eq_true h7]
  · cases h7
section
variable {X : Cx} {o e : Expr} {es : List Expr} {ta : TA} {p p1 p2 pos : Pos}
/-- GateError.__init__(self, ..) -/
theorem pe_gateinit {pl : Sem Bool} (N : NeedC X.K) (hm : X.mg "GateError" = some (.ref (He.ga X.K "GateError"))) (ha : PA X (e :: es) ta) (hg : Gl X "GateError" := by rfl)
    (hc : eval (.Call (.Attribute (.Name "GateError" p1) "__init__" p2) (e :: es) [] pos) X.env = (do
      let ov ← eval (.Name "GateError" p1) X.env
      standAt p2.atName
      let (f, first) ← holding [ov] (getMethod ov "__init__" pl)
      callWith pos f first (backTo pos (starEach (e :: es) X.env)) (backToKw pos (keywordEach [] X.env))) := by rfl)
    (he : starEach (e :: es) X.env = (false, eval e X.env) :: starEach es X.env := by rfl) (hpl : (backTo pos (starEach es X.env)).any (·.1) = false := by rfl) :
    PE X (.Call (.Attribute (.Name "GateError" p1) "__init__" p2) (e :: es) [] pos) (tVeI X.K ta) := by
  refine ⟨fun pins s σ H Q I h => ?_⟩
  refine PySem.W.methodCall_KW (ld_glob I hg hm ?_ (by decide)) hc
  refine PySem.W.method_cls I.kIn N.sp (PySem.W.cls_value I.kIn N.rd N.fd (by decide +kernel) ?_)
  show wpAny _ _ (callWith pos (Value.builtin "ValueError.__init__") [] (backTo pos (starEach (e :: es) X.env)) []) _ _ _
  refine PyProof.Rows.callWith_method1 (thn (ha.run pos pins _ σ H _ (I.tok _) h) fun us s1 ⟨vs, H1, I1, r1, a, C, ws, ev, hl, T, ea, q⟩ => ?_) he hpl
  subst ev
  cases r1 with
  | @cons _ u0 _ ur ra rw' =>
    obtain rfl : u0 = Value.ref a := ra
    have hlen : ur.length ≤ sizeLine := by
      rw [← Paired.length rw', sizeLine_eq]
      omega
    exact oinit_ok T I1 ea hlen fun s' J => ⟨.non, H1, J, rfl, q⟩
/-- C(e, ..), its own __init__ keeping sp, as L2N tells exceptions -/
theorem pmkN_oex {CX : CXT} {x : Str} {C fI : Addr} {k : Nat} {fd : FuncData} {ps : List Str} {sp : Sp} (T : OexC X.K C) (iC : PySem.W.findIn X.K (.ref C) "__init__" = some (some (.ref fI))) (tI : PySem.W.typeIn X.K (.ref fI) = some (.type "function"))
    (F1 : FnOk X.prog X.w X.K X.mg X.base CX k fI fd ps sp) (hr : Room (k + 1) X.A) (hb : Binds X.K fd ps []) (hx : Passes CX X (fun _ _ _ => False)) (hg : Gl X x) (hm : X.mg x = some (.ref C)) (ha : PA X (e :: es) ta)
    (hdb : (x == ("__debug__" : Str)) = false := by decide) (he : starEach (e :: es) X.env = (false, eval e X.env) :: starEach es X.env := by rfl) (hpl : (backTo pos (starEach es X.env)).any (·.1) = false := by rfl) :
    L2N.PMk X (.Call (.Name x p) (e :: es) [] pos) (tMkO C sp [] ta) := by
  intro pins s σ H Q I h
  obtain ⟨nm, q, N, bs, bm, sn, sub, ab, col, dd, k0, k1, k2, k3, k5, hC, hbm⟩ := T.cls
  refine wpAny_Call_Name_kw (ld_glob I hg hm ?_ hdb)
  refine PySem.W.callWith_K (h₀ := X.base) I.ok.mod.kin T.kC (thn (ha.run pos pins s σ H _ I h) fun us s1 ⟨vs, H1, I1, r1, hz, q1⟩ => ⟨I1.kIn, ?_⟩) he hpl
  show wpAny _ _ (call (.ref C) us) _ _ _
  obtain ⟨hp, g, dr, tk, os⟩ := s1
  have hsz : hp.objs.size ≤ hp.objs.size + 1 := Nat.le_succ _
  have hn : H1 (hp.objs.size + 1) = none := I1.hok.fresh hsz
  have hq := q1 (hp.objs.size + 1) hn
  rw [List.append_nil] at hq
  have kk : ∀ b o, hp.get? b = some o → ((hp.push (PySem.W.kdv_tup us)).push (PySem.HandSPX.excO C hp.objs.size)).get? b = some o := fun b o e => Heap.get?_push_of_some _ (Heap.get?_push_of_some _ e)
  have hget : ((hp.push (PySem.W.kdv_tup us)).push (PySem.HandSPX.excO C hp.objs.size)).get? (hp.objs.size + 1) = some (PySem.HandSPX.excO C hp.objs.size) := by heap_get
  have I2 : Inv X pins σ (upd H1 (hp.objs.size + 1) (exo (hp.objs.size + 1) C none)) ⟨(hp.push (PySem.W.kdv_tup us)).push (PySem.HandSPX.excO C hp.objs.size), g, dr, tk, os⟩ :=
    I1.laid (t' := tk) (a := hp.objs.size + 1) (o := exo (hp.objs.size + 1) C none) (h' := (hp.push (PySem.W.kdv_tup us)).push (PySem.HandSPX.excO C hp.objs.size)) kk hsz (exo_ok hget)
  have r2 : Vals (V.ref (hp.objs.size + 1) :: vs) (Value.ref (hp.objs.size + 1) :: us) := .cons rfl r1
  have hl : (Value.ref (hp.objs.size + 1) :: us ++ []).length = ps.length := by
    have e := r2.length
    rw [F1.len _ _ _ _ hq] at e
    rw [List.append_nil]
    exact e.symm
  have hus : us.length ≤ sizeLine := by
    rw [← Paired.length r1, sizeLine_eq]
    omega
  have b2 := hb _ (Value.ref (hp.objs.size + 1) :: us) I2.kIn hl
  rw [List.append_nil] at b2
  refine wpAny_call (PySem.HandSPX.call_own F.excBase_ValueError (fun Y => PySem.HandSPX.refsVE_contains Y bm hbm) (I1.kIn _ _ hC) (PySem.W.looks_findIn I1.kIn iC) (fun self => PySem.W.bind_fn I1.kIn self tI) hus
    (codeAny_mono (F1.run _ X.stack _ _ ⟨Value.ref (hp.objs.size + 1) :: us, []⟩ (Value.ref (hp.objs.size + 1) :: us) _ _ (fun _ _ _ => False) (hr.make C us []) (I2.env0.make C us []) b2 r2 hq) fun r s' hq' => ?_))
  cases r with
  | error er => exact hx pins σ _ _ er s' I2 hq'
  | ok fl =>
    cases fl with
    | ret u =>
      obtain ⟨v, H2, os2, bare2, un2, hok2, rv, ev, d, fs, ea, ed, hd1, q2⟩ := hq'
      subst ev
      obtain ⟨h2, g2, d2, t2, os'⟩ := s'
      obtain ⟨t0, G, J, kG, ge, hoe, na⟩ := mk_end0 (d2 := d2) (t2 := t2) I1 hsz kk un2 hok2 os2 bare2 ea ed hd1
      refine ⟨rv, hp.objs.size + 1, _, _, ⟨G, g2, d2, t2, os'⟩, _, .ref C, some d, rfl, J, kG, ge, hoe, ⟨rfl, rfl, fun vs hv => ?_⟩, rfl, rfl, na, rfl, bare2, raises_own T.exC T.tyC, q2⟩
      cases hv
      rfl
    | next => exact False.elim hq'
    | brk => exact False.elim hq'
    | cont => exact False.elim hq'
end
/-- Needed's own __init__ -/
def spNeeded (K : PySem.W.Frag) : Sp := fun vs H Q _ => ∃ (a : Addr) (v : V), vs = [.ref a, v] ∧ H a = some (exo a (He.ga K "Needed") none) ∧ ∀ dx, H dx = none → dx ≠ a → Q .non (upd (upd H dx (exd dx [("by", v)])) a (exo a (He.ga K "Needed") (some dx)))
/-- raise Needed(e) -/
def tRzN (K : PySem.W.Frag) (E : XK) (te : TE) : TS := fun _ σ H => tMkO (He.ga K "Needed") (spNeeded K) [] (tCons te tNil) σ H E
theorem ps_rzN {X : Cx} {E : XK} {e : Expr} {te : TE} {k : Nat} {fd : FuncData} {p pos pos' : Pos} (N : NeedC X.K) (F1 : FnOk X.prog X.w X.K X.mg X.base (CXN X.prog X.w) k (He.ma X.K (He.ga X.K "Needed") "__init__") fd ["self", "by"] (spNeeded X.K)) (hb : BindsE fd ["self", "by"]) (hr : Room (k + 1) X.A) (hm : X.mg "Needed" = some (.ref (He.ga X.K "Needed")))
    (hx : Passes (CXN X.prog X.w) X (fun _ _ _ => False)) (tk : L2N.Takes X (fun cls d _ H => E cls d H)) (he : PE X e te) (hc : X.calm = true := by rfl) (hg : Gl X "Needed" := by rfl) (hs : starEach [e] X.env = (false, eval e X.env) :: starEach [] X.env := by rfl) (hpl : (backTo pos (starEach [] X.env)).any (·.1) = false := by rfl) :
    PS X (.Raise (some (.Call (.Name "Needed" p) [e] [] pos)) none pos') (tRzN X.K E te) :=
  L2N.ps_raise (pos := pos') (W := fun cls d _ H => E cls d H) hc tk (pmkN_oex (x := "Needed") (p := p) (pos := pos) N.oex N.ini N.tyf F1 hr hb.binds hx hg hm (pa_cons he pa_nil (hs := hs)) (by decide) hs hpl)
/-- what is told of a value that needs -/
def RzN (K : PySem.W.Frag) (E : XK) (v : V) (H1 : Hp) : Prop := ∀ dx, H1 dx = none → E (.ref (He.ga K "Needed")) (some dx) (upd H1 dx (.xd [("by", v)]))
theorem rzN_up {K : PySem.W.Frag} {E : XK} {v : V} {H1 : Hp} (h : RzN K E v H1) : [v].length ≤ 1000 ∧ ∀ a, H1 a = none → spNeeded K (.ref a :: ([v] ++ [])) (upd H1 a (exo a (He.ga K "Needed") none))
    (fun v H2 => v = .non ∧ ∃ (d : Addr) (fs : List (Str × V)), H2 a = some (exo a (He.ga K "Needed") (some d)) ∧ H2 d = some (exd d fs) ∧ H1 d = none ∧ E (.ref (He.ga K "Needed")) (some d) (upd (del H2 a) d (.xd fs))) (fun _ _ _ => False) := by
  refine ⟨by simp, fun a na => ⟨a, v, rfl, upd_same, fun dx ndx nda => ⟨rfl, dx, [("by", v)], upd_same, by rw [upd_ne nda, upd_same], ?_, ?_⟩⟩⟩
  · rw [upd_ne nda] at ndx
    exact ndx
  · rw [upd_ne nda] at ndx
    have e : upd (del (upd (upd (upd H1 a (exo a (He.ga K "Needed") none)) dx (exd dx [("by", v)])) a (exo a (He.ga K "Needed") (some dx))) a) dx (.xd [("by", v)]) = upd H1 dx (.xd [("by", v)]) := by
      funext b
      by_cases hb : b = dx
      · rw [hb, upd_same, upd_same]
      · rw [upd_ne hb, upd_ne hb]
        by_cases hba : b = a
        · rw [hba, del_same, na]
        · rw [del_ne hba, upd_ne hba, upd_ne hb, upd_ne hba]
    rw [e]
    exact h dx ndx
theorem w_rzN {K : PySem.W.Frag} {E : XK} {σ : L2.St} {H : Hp} {D : Ends} {i : Nat} {v : V} (e : σ[i]? = some (some v)) (h : RzN K E v H) : tRzN K E (tVar i) D σ H := ⟨v, e, rzN_up h⟩
theorem w_veI {K : PySem.W.Frag} {ta : TA} {σ : L2.St} {H : Hp} {Q : VK} (h : ta σ H fun vs H1 => ∃ (a C : Addr) (ws : List V), vs = .ref a :: ws ∧ ws.length ≤ 1000 ∧ OexC K C ∧ H1 a = some (exo a C none) ∧ Q .non H1) : tVeI K ta σ H Q := h
theorem w_ost {K : PySem.W.Frag} {f : Str} {to te : TE} {D : Ends} {σ : L2.St} {H : Hp} (h : te σ H fun y H1 => to σ H1 fun x H2 => ∃ a C : Addr, x = .ref a ∧ OexC K C ∧ PySem.W.findIn K (.ref C) f = some none ∧
  ((H2 a = some (exo a C none) ∧ ∀ dx, H2 dx = none → dx ≠ a → D.nx σ (upd (upd H2 dx (exd dx [(f, y)])) a (exo a C (some dx)))) ∨
    ∃ (dx : Addr) (fs : List (Str × V)), H2 a = some (exo a C (some dx)) ∧ H2 dx = some (exd dx fs) ∧ fs.length ≤ 900 ∧ D.nx σ (upd H2 dx (exd dx ((f, y) :: fs))))) : tOst K f to te D σ H := h
theorem ps_rzM {X : Cx} {E : XK} {e : Expr} {te : TE} {j k : Nat} {p pos pos' : Pos} (N : NeedC X.K) (G : OkM X.prog X.w X.K X.mg X.base j "Needed" "__init__" ["self", "by"] (spNeeded X.K)) (hr : Room k X.A) (hm : X.mg "Needed" = some (.ref (He.ga X.K "Needed")))
    (hx : Passes (CXN X.prog X.w) X (fun _ _ _ => False)) (tk : L2N.Takes X (fun cls d _ H => E cls d H)) (he : PE X e te) (hk : j + 1 ≤ k := by first | decide | omega) (hc : X.calm = true := by rfl) (hg : Gl X "Needed" := by rfl) (hs : starEach [e] X.env = (false, eval e X.env) :: starEach [] X.env := by rfl) (hpl : (backTo pos (starEach [] X.env)).any (·.1) = false := by rfl) :
    PS X (.Raise (some (.Call (.Name "Needed" p) [e] [] pos)) none pos') (tRzN X.K E te) := by
  obtain ⟨me, fd, fe, b, F⟩ := G
  exact ps_rzN N F b (hr.mono hk) hm hx tk he hc hg hs hpl
/-! ### the Hook, the interpreter's own statics among what is looked at (readsIn asks there) -/
def asS (g : Addr → Option Obj) (n : Nat) : List Addr := He.asD g n ++ [cStatics]
def obsS (n : Nat) (fa : List He.Fa) (fn : List He.DefD) (ts : List He.Tab) (tf : List He.Defn) (ex : PySem.W.Frag → Bool) (g : Addr → Option Obj) : He.AlX := (He.obsT fa fn ts (He.frT g (asS g n)), ex (He.frT g (asS g n)) && He.tabsB g tf (He.frT g (asS g n)))
theorem saysS_of {n : Nat} {fa : List He.Fa} {fn : List He.DefD} {ts : List He.Tab} {tf : List He.Defn} {ex : PySem.W.Frag → Bool} {w : World} {h : Heap} (e : obsS n fa fn ts tf ex h.get? = He.valX fn ts w) : He.SaysX fa fn ts tf ex w h (He.frT h.get? (asS h.get? n)) := by
  have e1 : He.obsT fa fn ts (He.frT h.get? (asS h.get? n)) = He.valT fn ts w := congrArg (fun z : He.AlX => z.1) e
  have e2 : (ex (He.frT h.get? (asS h.get? n)) && He.tabsB h.get? tf (He.frT h.get? (asS h.get? n))) = true := congrArg (fun z : He.AlX => z.2) e
  obtain ⟨h1, h2⟩ := He.ba e2
  have key : ∀ p ∈ tf, PySem.W.codeHdIn (He.frT h.get? (asS h.get? n)) (He.cT (He.frT h.get? (asS h.get? n)) p).1 (He.cT (He.frT h.get? (asS h.get? n)) p).2 = true ∧ ∃ o, h.get? (He.cT (He.frT h.get? (asS h.get? n)) p).2 = some o ∧ He.emptyTab o = true := fun p hp => by
    obtain ⟨h3, h4⟩ := He.ba (List.all_eq_true.mp h2 p hp)
    refine ⟨h3, ?_⟩
    cases q : h.get? (He.cT (He.frT h.get? (asS h.get? n)) p).2 with
    | none =>
      rw [q] at h4
      cases h4
    | some o =>
      rw [q] at h4
      exact ⟨o, rfl, h4⟩
  exact ⟨e1, h1, fun p hp => (key p hp).1, fun p hp => by
    obtain ⟨_, o, q, z⟩ := key p hp
    exact He.frT_none q z, fun p hp => by
    obtain ⟨_, o, q, z⟩ := key p hp
    rw [q, He.emptyTab_eq z]⟩
def hookS (n : Nat) (fa : List He.Fa) (fn : List He.DefD) (ts : List He.Tab) (tf : List He.Defn) (ex : PySem.W.Frag → Bool) : PySem.W.Hook where
  α := He.AlX
  obs := fun s => obsS n fa fn ts tf ex s.heap.get?
  val := fun w => He.valX fn ts w
  says := fun w h => ∃ K : PySem.W.Frag, K.In h ∧ He.SaysX fa fn ts tf ex w h K
  of := fun _ _ e => ⟨_, He.frT_in, saysS_of e⟩
  keeps := fun _ _ _ ⟨K, hK, c⟩ k => ⟨K, PySem.W.Frag.In.keeps hK k, ⟨c.t, c.more, c.hd, c.out, fun p hp => k _ _ (c.empty p hp)⟩⟩
theorem obsS_eq {n : Nat} {fa : List He.Fa} {fn : List He.DefD} {ts : List He.Tab} {tf : List He.Defn} {ex : PySem.W.Frag → Bool} {g : Addr → Option Obj} {s : Shared} (h : ∀ a, g a = s.heap.get? a) : obsS n fa fn ts tf ex g = (hookS n fa fn ts tf ex).obs s := by
  have e : g = s.heap.get? := funext h
  rw [e] <;> rfl
end RG
namespace RG
open PySem PySem.Spec PyProof.Rows L2
section
variable {P : Program} {w : World} {K : PySem.W.Frag} {mg : Str → Option Value} {base : Heap}
theorem OkM.imp {C m : Str} {ps : List Str} {k : Nat} {sp sp' : Sp} (G : OkM P w K mg base k C m ps sp) (h : ∀ vs H Q E, sp' vs H Q E → sp vs H Q E) : OkM P w K mg base k C m ps sp' := by
  obtain ⟨g, fd, fe, b, F⟩ := G
  exact ⟨g, fd, fe, b, F.imp h⟩
/-- a method without any promise -/
theorem OkM.bot {C m qn : Str} {st : Stmt} {ps : List Str} {k : Nat} (M : Meth K (He.ga K C) m (He.ma K (He.ga K C) m)) (F : FnAtM K C m qn st) (b : BindAllM m qn st ps) : OkM P w K mg base k C m ps (fun _ _ _ _ => False) := by
  obtain ⟨fd, F⟩ := F
  have e : fdAt K (He.ma K (He.ga K C) m) = some fd := by
    obtain ⟨oc, od, dV, kV, doc, pm, an, cdv, ct, osl, rfl, lk, _⟩ := F.ex
    unfold fdAt
    rw [lk]
  exact ⟨M, fd, e, F.bindsA b, ⟨fun _ _ _ _ h => h.elim, fun _ _ _ _ _ _ _ _ _ _ _ _ _ h => h.elim⟩⟩
end
end RG
/-! ### d == e, two dicts of data -/
namespace RG
open PySem PySem.Spec PyProof.Rows L2
inductive DcR (K : PySem.W.Frag) (H : Hp) : List (Key × V) → List (Key × PyData) → Prop
  | nil : DcR K H [] []
  | cons {kvs : List (Key × V)} {ds : List (Key × PyData)} {k : Key} {v : V} {d : PyData} (h : Dp K H v d) (tl : DcR K H kvs ds) : DcR K H ((k, v) :: kvs) ((k, d) :: ds)
def valP (kb : List (Key × PyData)) (k : Key) : Option PyData := (kb.find? fun p => decide (p.1 = k)).map (·.2)
def hitD (kb : List (Key × PyData)) (p : Key × PyData) : Bool := match valP kb p.1 with
  | some e => PyData.eqv p.2 e
  | none => false
def eqDc (da db : List (Key × PyData)) : Bool := decide (da.length = db.length) && da.all (hitD db)
theorem DcR.len {K : PySem.W.Frag} {H : Hp} {kvs : List (Key × V)} {ds : List (Key × PyData)} (h : DcR K H kvs ds) : kvs.length = ds.length := by
  induction h with
  | nil => rfl
  | cons _ _ ih => rw [List.length_cons, List.length_cons, ih]
theorem DcR.val {K : PySem.W.Frag} {H : Hp} {kvs : List (Key × V)} {ds : List (Key × PyData)} (h : DcR K H kvs ds) (k : Key) : (valV kvs k = none ∧ valP ds k = none) ∨ ∃ v d, valV kvs k = some v ∧ valP ds k = some d ∧ Dp K H v d ∧ (k, d) ∈ ds := by
  induction h with
  | nil => exact .inl ⟨rfl, rfl⟩
  | @cons kvs ds k' v d hd _ ih =>
    unfold valV valP at ih ⊢
    rw [List.find?_cons, List.find?_cons]
    by_cases e : k' = k
    · subst e
      simp only [decide_true]
      exact .inr ⟨v, d, rfl, rfl, hd, by simp⟩
    · simp only [decide_eq_false e]
      rcases ih with ih | ⟨v, d, h1, h2, h3, h4⟩
      · exact .inl ih
      · exact .inr ⟨v, d, h1, h2, h3, List.mem_cons_of_mem _ h4⟩
section
variable {X : Cx} {pins : List (Addr × Obj)} {σ : L2.St} {H : Hp} {s : Shared}
theorem hits_D (I : Inv X pins σ H s) {A : Around} (hu : A.units + 64 < cLine) {kb : List (Key × V)} {vb : List (Key × Value)} {db : List (Key × PyData)} (rb : KV kb vb) (hb : DcR X.K H kb db) (sb : ∀ p ∈ db, SeqAt.shaped p.2 = true) {ka : List (Key × V)} {da : List (Key × PyData)} (ha : DcR X.K H ka da) :
    ∀ {va : List (Key × Value)}, KV ka va → (∀ p ∈ da, SeqAt.shaped p.2 = true) → PySem.W.KeqHitsP X.prog X.w A s vb va (da.all (hitD db)) := by
  induction ha with
  | nil =>
    intro va ra _
    cases ra
    exact .nil
  | @cons kvs ds k v d hd _ ih =>
    intro va ra sa
    cases ra with
    | @cons _ q _ qs h t =>
      obtain ⟨key, u⟩ := q
      obtain ⟨h1, h2⟩ := h
      have h1 : k = key := h1
      subst h1
      have ih := ih t fun p hp => sa p (List.mem_cons_of_mem _ hp)
      rw [List.all_cons]
      have rr := rb.val k
      rcases hb.val k with ⟨e1, e2⟩ | ⟨v', d', e1, e2, e3, e4⟩
      · have e : hitD db (k, d) = false := by
          unfold hitD
          simp only [e2]
        rw [e1] at rr
        rw [e, Bool.false_and]
        refine .miss ?_
        cases ev : valueAt vb k with
        | none => rfl
        | some y =>
          rw [ev] at rr
          exact rr.elim
      · have e : hitD db (k, d) = PyData.eqv d d' := by
          unfold hitD
          simp only [e2]
        rw [e1] at rr
        rw [e]
        obtain ⟨y, hy, ry⟩ := rr.some_of
        obtain ⟨as, r1⟩ := Dp.reads I d v u hd h2
        obtain ⟨bs, r2⟩ := Dp.reads I d' v' y e3 ry
        exact .hit hy (SeqAt.eqAt_reads d d' A s u y as bs r1 r2 (SeqAt.canLay_of_shaped (sa _ List.mem_cons_self)) (SeqAt.canLay_of_shaped (sb _ e4)) (SeqAt.room_of_shaped (sa _ List.mem_cons_self) hu)).eqP ih
end
def rEqDc (K : PySem.W.Frag) : R2 := fun x y H Q => ∃ (a b : Addr) (ka kb : List (Key × V)) (da db : List (Key × PyData)), x = .ref a ∧ y = .ref b ∧ H a = some (.dK ka) ∧ H b = some (.dK kb) ∧ DcR K H ka da ∧ DcR K H kb db ∧ (∀ p ∈ da, SeqAt.shaped p.2 = true) ∧ (∀ p ∈ db, SeqAt.shaped p.2 = true) ∧ Q (.bl (eqDc da db)) H
theorem op_eqDc {X : Cx} (hu : X.A.units + 65 < cLine) : OpR X (compareOp .Eq) (rEqDc X.K) := by
  intro pins s σ H x y v u Q I rx ry h
  obtain ⟨a, b, ka, kb, da, db, rfl, rfl, ha, hb, ra, rb, sa, sb, q⟩ := h
  cases (show v = Value.ref a from rx)
  cases (show u = Value.ref b from ry)
  obtain ⟨_, ya, va, pa, dda⟩ := (show ObjOk X.prog X.w H s.heap a (.dK ka) from I.hok a _ ha)
  obtain ⟨_, yb, vb, pb, ddb⟩ := (show ObjOk X.prog X.w H s.heap b (.dK kb) from I.hok b _ hb)
  refine PySem.W.rcP_dicts (A := X.A) (knd := mixKind X.prog X.w) (r := da.all (hitD db)) ya yb dda ddb (by omega) (fun _ => hits_D I (by show X.A.units + 1 + 64 < cLine; omega) pb rb sb ra pa sa) _ _ ?_
  refine ⟨.bl _, H, I, rfl, ?_⟩
  have e : (va.length == vb.length && da.all (hitD db)) = eqDc da db := by
    unfold eqDc
    rw [← pa.length, ← pb.length, ra.len, rb.len]
    rfl
  rw [e]
  exact q
end RG
/-! ### defs of the top with one default; divmod -/
namespace RG
open PySem PySem.Spec PyProof.Rows L2
abbrev FnAtF (K : PySem.W.Frag) (x : Str) (st : Stmt) (dv : V) : Prop := ∃ fd, FunD K x x (defArgs st) (defBody st) (defScope st) [dv] [] (He.ga K x) fd
structure OkD (P : Program) (w : World) (K : PySem.W.Frag) (mg : Str → Option Value) (base : Heap) (k : Nat) (x : Str) (ps : List Str) (sp : Sp) (n : Nat) (dv : V) : Prop where
  gl : mg x = some (.ref (He.ga K x))
  kp : PySem.W.keepIn K (.ref (He.ga K x)) = true
  ex : ∃ fd, FnOk P w K mg base (CXN P w) k (He.ga K x) fd ps sp ∧ Binds K fd ps [] ∧ ∃ ds, Vals [dv] ds ∧ Binds K fd ps ds
section
variable {P : Program} {w : World} {K : PySem.W.Frag} {mg : Str → Option Value} {base : Heap}
theorem OkD.mk' {x : Str} {st : Stmt} {N ps : List Str} {k n : Nat} {sp : Sp} {dv : V} (G : mg x = some (.ref (He.ga K x))) (F : FnAtF K x st dv) (hn : n + 1 = ps.length)
    (b1 : ∀ (T : Addr) (kV doc pm : Value) (an : Option Addr) (cdv ct : Value) (us its : List Value), us.length = n → its.length = 1 → ∃ k, bindArgs (PySem.W.fnOf x x (defArgs st) (defBody st) (defScope st) (.ref T) kV doc pm an cdv ct) ⟨us, []⟩ = seqItems? (.ref T) >>= k ∧ k (some its.toArray) = pure (ps.zip (us ++ its)))
    (b2 : ∀ (T : Addr) (kV doc pm : Value) (an : Option Addr) (cdv ct : Value) (us its : List Value), us.length = n + 1 → its.length = 1 → ∃ k, bindArgs (PySem.W.fnOf x x (defArgs st) (defBody st) (defScope st) (.ref T) kV doc pm an cdv ct) ⟨us, []⟩ = seqItems? (.ref T) >>= k ∧ k (some its.toArray) = pure (ps.zip us))
    (S : FnScope N ps (defScope st)) (len : ∀ vs H Q E, sp vs H Q E → vs.length = ps.length)
    (body : ∀ (cdv : Value) (A : Around) (outer : List Env) (s : Shared) (H : Hp) (vs : List V) (Q : VK) (E : XK), Room k (A.deeper (envOfC x (defScope st) s.heap.objs.size (He.ga K x) cdv)) → sp vs H Q E →
      ∃ t, PSs (cxOf (CXN P w) P w K mg base N x (defScope st) (He.ga K x) cdv A outer s H E) (defBody st) t ∧ t { nx := fun _ H' => Q .non H', rt := Q } (start N vs) H) : OkD P w K mg base (k + 1) x ps sp n dv := by
  obtain ⟨fd, F⟩ := F
  obtain ⟨d1, v1, B1⟩ := F.binds1 (ps := ps) n 0 (by simp) (by simp; omega) fun T kV doc pm an cdv ct us its h1 h2 => by
    rw [List.drop_zero]
    exact b1 T kV doc pm an cdv ct us its h1 h2
  obtain ⟨d2, v2, B2⟩ := F.binds1 (ps := ps) (n + 1) 1 (by simp) (by simp; omega) fun T kV doc pm an cdv ct us its h1 h2 => by
    rw [List.drop_of_length_le (by rw [h2]; exact Nat.le_refl 1), List.append_nil]
    exact b2 T kV doc pm an cdv ct us its h1 h2
  have e2 : d2 = [] := by
    cases v2
    rfl
  subst e2
  exact ⟨G, F.kp, fd, F.ok S len body, B2, d1, v1, B1⟩
end
section
variable {X : Cx} {j k n : Nat} {x : Str} {ps : List Str} {sp : Sp} {E : XK} {p pos : Pos} {e : Expr} {es : List Expr} {t : TA} {dv : V}
theorem pe_fd2 (G : OkD X.prog X.w X.K X.mg X.base j x ps sp n dv) (hr : Room k X.A) (hx : Passes (CXN X.prog X.w) X E) (ha : PA X (e :: es) t)
    (hk : j ≤ k := by first | decide | omega) (hg : Gl X x := by rfl) (hdb : (x == ("__debug__" : Str)) = false := by decide)
    (he : starEach (e :: es) X.env = (false, eval e X.env) :: starEach es X.env := by rfl) (hpl : (backTo pos (starEach es X.env)).any (·.1) = false := by rfl) :
    PE X (.Call (.Name x p) (e :: es) [] pos) (tCall sp [] E t) := by
  obtain ⟨g, kp, fd, F, b, _⟩ := G
  exact pe_call F (hr.mono hk) hg g kp b .nil hx ha hdb he hpl
theorem pe_fd1 (G : OkD X.prog X.w X.K X.mg X.base j x ps sp n dv) (hr : Room k X.A) (hx : Passes (CXN X.prog X.w) X E) (ha : PA X (e :: es) t)
    (hk : j ≤ k := by first | decide | omega) (hg : Gl X x := by rfl) (hdb : (x == ("__debug__" : Str)) = false := by decide)
    (he : starEach (e :: es) X.env = (false, eval e X.env) :: starEach es X.env := by rfl) (hpl : (backTo pos (starEach es X.env)).any (·.1) = false := by rfl) :
    PE X (.Call (.Name x p) (e :: es) [] pos) (tCall sp [dv] E t) := by
  obtain ⟨g, kp, fd, F, _, ds, v, b⟩ := G
  exact pe_call F (hr.mono hk) hg g kp b v hx ha hdb he hpl
end
theorem w_callD {sp : Sp} {E : XK} {ts : TA} {dvs : List V} {σ : L2.St} {H : Hp} {Q : VK} (h : ts σ H fun vs H1 => sp (vs ++ dvs) H1 Q E) : tCall sp dvs E ts σ H Q := h
def rDivmod : List V → Hp → VK → Prop := fun xs H Q => ∃ i j, xs = [.int i, .int j] ∧ CDivP i j ∧ ∀ p, H p = none → Q (.ref p) (upd H p (.tup [.int (i / j), .int (i % j)]))
end RG
/-! ### o == p, o != p by an own __eq__; xs == [] of a list of anything -/
namespace RG
open PySem PySem.Spec PyProof.Rows L2
section
variable {M : Model} {prog : Program} {w : World} {A : Around} {E : Value → Shared → Prop} {s : Shared} {K : PySem.W.Frag} {x C f : Addr} {ox : Obj} {od : Option Obj} {y : Value}
/-- object's own __ne__, bound -/
theorem bound_ne {args : List Value} {Q : Option Value → Shared → Prop} (Y : K.In s.heap) (J : PySem.W.InstAt s.heap x ox C od) (hs : PySem.W.findIn K (.ref C) "__ne__" = some (some (.builtin "object.__ne__")))
    (hc : wpAny M A (call (.builtin "object.__ne__") (.ref x :: args)) (fun v => Q (some v)) E s) : wpAny M A (callSpecialIfBound? (.ref x) "__ne__" args) Q E s := by
  have last : wpAny M A (call (.builtin "object.__ne__") ([.ref x] ++ args) >>= fun v => pure (some v)) Q E s := wpAny_bind (wpAny_mono hc (fun _ _ z => wpAny_pure z) fun _ _ z => z)
  simp only [callSpecialIfBound?, bindSpecialIfBound?]
  refine wpAny_holding (wpAny_bind (wpAny_bind (wpAny_bind (J.type.here ((PySem.W.looks_findIn Y hs).here (wpAny_bind (wpAny_askSetting (wpAny_ite ?_))))))))
  split
  · exact wpAny_bind (wpAny_of_eq (F.cmp_object.ne.bind (.ref x)) (wpAny_pure last))
  · exact wpAny_tryCatch (wpAny_bind (wpAny_of_eq (F.cmp_object.ne.bind (.ref x)) (wpAny_pure last)))
theorem entry_ne {Q : Fin → Shared → Prop} (Y : K.In s.heap) (J : PySem.W.InstAt s.heap x ox C od) (he : PySem.W.findIn K (.ref C) "__eq__" = some (some (.ref f))) (hf : PySem.W.isFn K (.ref f) = true) (hu : A.units < cLine)
    (hc : wpAny (model prog w) A (call (.ref f) [.ref x, y]) (fun v s' => ∃ b, v = .bool b ∧ Q (.done (.ret (.bool (!b)))) s') E s) : wpAny (model prog w) A (Builtin.«object.__ne__» ⟨[.ref x, y], []⟩) Q E s := by
  unfold Builtin.«object.__ne__»
  repeat (first
    | with_reducible refine wpAny_cRoomFor hu ?_
    | (refine wpAny_bind (m := callSpecialIfBound? (.ref x) (Str.ofString "__eq__") [y]) (PySem.W.ifBound_K Y J he hf (wpAny_mono hc (fun r s' z => ?_) fun _ _ z => z)))
    | wp_step)
  obtain ⟨b, rfl, hq⟩ := z
  repeat (first
    | exact hq
    | exact wpAny_pure hq
    | exact wpAny_truthy_bool hq
    | (refine wpAny_bind (m := truthy (.bool _)) (wpAny_truthy_bool ?_))
    | wp_step)
theorem rc_ne {yA : Addr} {Q : Value → Shared → Prop} (Y : K.In s.heap) (J : PySem.W.InstAt s.heap x ox C od) (ty : PySem.W.Looks (model prog w) s.heap (typeOf (.ref yA)) (.ref C)) (hn : PySem.W.findIn K (.ref C) "__ne__" = some (some (.builtin "object.__ne__"))) (hm : PySem.W.mroIn K C (.type "object") = some true)
    (he : PySem.W.findIn K (.ref C) "__eq__" = some (some (.ref f))) (hf : PySem.W.isFn K (.ref f) = true) (hu : A.units + 1 < cLine)
    (hc : wpAny (model prog w) A.in1 (call (.ref f) [.ref x, .ref yA]) (fun v s' => ∃ b, v = .bool b ∧ Q (.bool (!b)) s') E s) : wpAny (model prog w) A (richCompare .NotEq (.ref x) (.ref yA)) Q E s := by
  have one : wpAny (model prog w) A (tryCompare (.ref x) "__ne__" (.ref yA)) (fun r s' => ∃ v, r = some v ∧ Q v s') E s := by
    unfold tryCompare
    refine wpAny_bind (bound_ne Y J hn ?_)
    refine wpAny_call (codeAny_call_builtin F.cmp_object.ne.plain F.cmpEntry_ne (PySem.W.check_slot F.cmpKind_ne F.cmpSplit_ne (J.type.andThen (PySem.W.looks_mroIn Y hm)) (F.cmpArgs_ne _ _) ?_))
    refine entry_ne (A := A.in1) Y J he hf hu (wpAny_mono hc (fun v s' z => ?_) fun _ _ z => z)
    obtain ⟨b, rfl, hq⟩ := z
    first
      | exact ⟨b, rfl, wpAny_pure ⟨_, rfl, hq⟩⟩
      | exact ⟨b, rfl, wpAny_pure (wpAny_pure ⟨_, rfl, hq⟩)⟩
      | exact ⟨b, rfl, _, rfl, hq⟩
  unfold richCompare
  simp only [oneThing_ref]
  refine wpAny_holding (wpAny_bind (wpAny_cRoomFor (Nat.lt_of_succ_lt hu) (wpAny_bind (J.type.here (wpAny_bind (ty.here ?_))))))
  split
  · rename_i q
    simp at q
  · refine wpAny_bind (wpAny_pure ?_)
    simp only [Bool.false_eq_true, if_false]
    refine wpAny_bind (wpAny_mono one (fun r s' z => ?_) fun _ _ z => z)
    obtain ⟨v, rfl, hq⟩ := z
    exact wpAny_pure hq
end
/-- what the classes with an own __eq__ say -/
def neqB (K : PySem.W.Frag) (c : Str) : Bool := decide (PySem.W.findIn K (.ref (He.ga K c)) "__ne__" = some (some (.builtin "object.__ne__"))) && (decide (PySem.W.mroIn K (He.ga K c) (.type "object") = some true) && (decide (PySem.W.kitOne K (.ref (He.ga K c)) (.ref (He.ga K c)) = some true) && (decide (PySem.W.kitOne K (.type "dict") (.ref (He.ga K c)) = some false) && (decide (PySem.W.findIn K (.ref (He.ga K c)) "__class__" = some (some (.builtin "object.__class__"))) && (decide (PySem.W.specialIn K (.builtin "object.__class__") "__get__" = some (some (.builtin "getset_descriptor.__get__"))) && decide (PySem.W.takesIn K (.builtin "object.__class__") = some true))))))
structure NeqC (K : PySem.W.Frag) (c : Str) : Prop where
  ne : PySem.W.findIn K (.ref (He.ga K c)) "__ne__" = some (some (.builtin "object.__ne__"))
  ob : PySem.W.mroIn K (He.ga K c) (.type "object") = some true
  is : PySem.W.kitOne K (.ref (He.ga K c)) (.ref (He.ga K c)) = some true
  no : PySem.W.kitOne K (.type "dict") (.ref (He.ga K c)) = some false
  c1 : PySem.W.findIn K (.ref (He.ga K c)) "__class__" = some (some (.builtin "object.__class__"))
  c2 : PySem.W.specialIn K (.builtin "object.__class__") "__get__" = some (some (.builtin "getset_descriptor.__get__"))
  c3 : PySem.W.takesIn K (.builtin "object.__class__") = some true
theorem neqB_ok {K : PySem.W.Frag} {c : Str} (h : neqB K c = true) : NeqC K c := by
  simp only [neqB, Bool.and_eq_true, decide_eq_true_eq] at h
  exact ⟨h.1, h.2.1, h.2.2.1, h.2.2.2.1, h.2.2.2.2.1, h.2.2.2.2.2.1, h.2.2.2.2.2.2⟩
/-- an instance of C, or a dict -/
def EqTy (C : Addr) (H : Hp) (y : V) : Prop := ∃ b, y = .ref b ∧ ((∃ dx fs, H b = some (.ins C dx fs)) ∨ ∃ kvs, H b = some (.dK kvs))
def rEqO (C : Addr) (sp : Sp) (E : XK) : R2 := fun x y H Q => ∃ a dx fs, x = .ref a ∧ H a = some (.ins C dx fs) ∧ EqTy C H y ∧ sp [x, y] H (fun z H' => ∃ b, z = .bl b ∧ Q (.bl b) H') E
def rNeO (C : Addr) (sp : Sp) (E : XK) : R2 := fun x y H Q => ∃ a b dx fs dx' fs', x = .ref a ∧ y = .ref b ∧ H a = some (.ins C dx fs) ∧ H b = some (.ins C dx' fs') ∧ sp [x, y] H (fun z H' => ∃ b, z = .bl b ∧ Q (.bl (!b)) H') E
theorem sub_dict {K : PySem.W.Frag} {C : Addr} : PySem.W.subIn K (.type "dict") (.ref C) = some false := by
  have e : fastBuiltinMro "dict" = some [.type "dict", .type "object"] := by decide +kernel
  show (fastBuiltinMro "dict").map (·.contains (.ref C)) = some false
  rw [e]
  first
    | rfl
    | simp
section
variable {X : Cx} {j k : Nat} {C : Str} {ps : List Str} {sp : Sp} {E : XK}
theorem op_eqO (G : OkM X.prog X.w X.K X.mg X.base j C "__eq__" ps sp) (hr : Room k X.A) (hx : Passes (CXN X.prog X.w) X E) (hk : j ≤ k := by first | decide | omega) : OpR X (compareOp .Eq) (rEqO (He.ga X.K C) sp E) := by
  intro pins s σ H x y v u Q I rx ry h
  obtain ⟨a, dx, fs, rfl, ha, ⟨b, rfl, hy⟩, q⟩ := h
  cases (show v = Value.ref a from rx)
  cases (show u = Value.ref b from ry)
  obtain ⟨mA, O, _⟩ := ins_get I.hok ha
  obtain ⟨od, J, _⟩ := O.look
  obtain ⟨me, fd, fe, bb, F⟩ := G
  obtain ⟨m, hF⟩ := I.fr
  have hrj := hr.mono hk
  have run := run_below (us := [.ref a, .ref b]) (vs := [.ref a, .ref b]) F hrj I.env0 bb hx I (.cons rfl (.cons rfl .nil)) q
  have back : ∀ w s', EP X pins σ (fun z H' => ∃ b, z = .bl b ∧ Q (.bl b) H') w s' → PySem.W.CmpBack (EP X pins σ Q) w s' := fun w s' z => by
    obtain ⟨z', H', I', rz, c, ec, qz⟩ := z
    subst ec
    cases (show w = Value.bool c from rz)
    exact ⟨.bl c, H', I', rfl, qz⟩
  rcases hy with ⟨dy, gs, hb⟩ | ⟨kvs, hb⟩
  · obtain ⟨mB, O', _⟩ := ins_get I.hok hb
    obtain ⟨od', J', _⟩ := O'.look
    exact PySem.W.cmp_K (op := .Eq) (tb := .ref (He.ga X.K C)) hrj.units0 hF I.ok.mod.kin J J'.type (by simp [PySem.W.notFirst]) me.at_ me.fn (wpAny_mono run back fun _ _ z => z)
  · obtain ⟨_, yb, vb, rb, db⟩ := (show ObjOk X.prog X.w H s.heap b (.dK kvs) from I.hok b _ hb)
    obtain ⟨o, ho, hc⟩ := db.typeIs
    have ty : PySem.W.Looks (model X.prog X.w) s.heap (typeOf (.ref b)) (.type "dict") := hc ▸ (PySem.W.Looks.ld ho).andThen .now
    exact PySem.W.cmp_K (op := .Eq) (tb := .type "dict") hrj.units0 hF I.ok.mod.kin J ty (by simp [PySem.W.notFirst, sub_dict]) me.at_ me.fn (wpAny_mono run back fun _ _ z => z)
theorem op_neO (G : OkM X.prog X.w X.K X.mg X.base j C "__eq__" ps sp) (T : NeqC X.K C) (hr : Room k X.A) (hx : Passes (CXN X.prog X.w) X E) (hk : j + 1 ≤ k := by first | decide | omega) : OpR X (compareOp .NotEq) (rNeO (He.ga X.K C) sp E) := by
  intro pins s σ H x y v u Q I rx ry h
  obtain ⟨a, b, dx, fs, dy, gs, rfl, rfl, ha, hb, q⟩ := h
  cases (show v = Value.ref a from rx)
  cases (show u = Value.ref b from ry)
  obtain ⟨mA, O, _⟩ := ins_get I.hok ha
  obtain ⟨od, J, _⟩ := O.look
  obtain ⟨mB, O', _⟩ := ins_get I.hok hb
  obtain ⟨od', J', _⟩ := O'.look
  obtain ⟨me, fd, fe, bb, F⟩ := G
  have hr1 : Room j X.A.in1 := (hr.mono hk).in1
  refine rc_ne (A := X.A) I.kIn J J'.type T.ne T.ob me.at_ me.fn (by have := hu1 hr; exact this) ?_
  refine wpAny_mono (run_below (us := [.ref a, .ref b]) (vs := [.ref a, .ref b]) F hr1 I.env0.in1 bb hx I (.cons rfl (.cons rfl .nil)) q) (fun w s' z => ?_) fun _ _ z => z
  obtain ⟨z', H', I', rz, c, ec, qz⟩ := z
  subst ec
  cases (show w = Value.bool c from rz)
  exact ⟨c, rfl, .bl (!c), H', I', rfl, qz⟩
end
end RG
namespace RG
open PySem PySem.SeqAt
open AutoSeq1 (wpAny_loadPart')
section
variable {prog : Program} {w : World}
/-- two lists of unlike lengths -/
theorem list_unlike (l b : Addr) (items items2 : Array Value) (n n2 : Nat) (dd dd2 : Option Addr) (sl sl2 : Array (Option Value)) (hsz : items.size ≠ items2.size) :
    MeetsIn prog w (Builtin.«list.__eq__» ⟨[.ref l, .ref b], []⟩)
      (fun _ R s => s.heap.get? l = some { cls := .type "list", dict := dd, data := .seq items n, slots := sl } ∧ s.heap.get? b = some { cls := .type "list", dict := dd2, data := .seq items2 n2, slots := sl2 } ∧ R (.ok (.ret (.bool false))) s) := by
  intro A R s h
  obtain ⟨hp, g, d, tk, os⟩ := s
  obtain ⟨hl, hb, h⟩ := h
  have f3 := AutoSeq1.sub_list_list
  have hne : (items.size != items2.size) = true := by simp [hsz]
  wp_walk using wpAny_loadPart' hl, wpAny_loadPart' hb
  all_goals first | exact h | skip
theorem rcP_unlike {A : Around} {s : Shared} {l b : Addr} {items items2 : Array Value} (hl : s.heap.IsList l items) (hb : s.heap.IsList b items2) (hsz : items.size ≠ items2.size) (hu : A.units < cLine)
    (E Q : Value → Shared → Prop) (h : Q (.bool false) s) : wpAny (model prog w) A (richCompare .Eq (.ref l) (.ref b)) Q E s := by
  obtain ⟨⟨c1, d1, t1, s1⟩, e1, hc1, n1, hd1⟩ := id hl
  obtain ⟨⟨c2, d2, t2, s2⟩, e2, hc2, n2, hd2⟩ := id hb
  simp only at hc1 hd1 hc2 hd2
  subst hc1 hd1 hc2 hd2
  exact wpAny_richCompare_same_room (op := .Eq) ⟨_, e1, rfl⟩ ⟨_, e2, rfl⟩ F.slot_list_eq (call_meetsIn F.slot_list_eq ⟨_, e1, rfl⟩ F.entry_list_eq (F.args_list_eq_2 _ _) (list_unlike l b items items2 n1 n2 d1 d2 s1 s2 hsz)
    ⟨e1, e2, show Value.bool false ≠ Value.notImplemented ∧ Q (.bool false) s from ⟨(fun z => nomatch z), h⟩⟩) hu
end
end RG
namespace RG
open PySem PySem.Spec PyProof.Rows L2
/-- xs == [] -/
def rEqE (K : PySem.W.Frag) : R2 := fun x y H Q => ∃ a b xs, x = .ref a ∧ y = .ref b ∧ SqL K H a xs ∧ SqL K H b [] ∧ Q (.bl (decide (xs = []))) H
theorem op_eqE {X : Cx} (hu : X.A.units < cLine) : OpR X (compareOp .Eq) (rEqE X.K) := by
  intro pins s σ H x y v u Q I rx ry h
  obtain ⟨a, b, xs, rfl, rfl, ha, hb, q⟩ := h
  cases (show v = Value.ref a from rx)
  cases (show u = Value.ref b from ry)
  obtain ⟨us, r1, p1, _⟩ := I.list ha
  obtain ⟨ws, r2, p2, _⟩ := I.list hb
  cases r2
  cases xs with
  | nil =>
    cases r1
    exact SeqAt.rcP_lists (A := X.A) (e := fun _ => true) p1.isList p2.isList rfl hu (fun j h1 => absurd h1 (Nat.not_lt_zero j)) _ _ ⟨.bl true, H, I, rfl, q⟩
  | cons x xs =>
    cases r1 with
    | cons h1 h2 => exact rcP_unlike (A := X.A) p1.isList p2.isList (by simp) hu _ _ ⟨.bl false, H, I, rfl, q⟩
end RG
namespace RG
open PySem PySem.Spec PyProof.Rows L2
/-- a lambda in a block -/
theorem lamS_in {sc scope : Scope} {cl : List (Str × Addr)} {C : Addr} {env : Env} (h : LamX.lamSB sc scope = true) : LamX.LamS (compEnvC sc cl C env).scope scope := by
  have k := LamX.lamS_by h
  exact ⟨k.kind, k.co, k.gen, k.own, fun y hy e => rel_lookup (k.free y hy e)⟩
end RG
/-! ### texts: str(x), split, partition, replace; a def with a token out -/
namespace RG
open PySem PySem.Spec PyProof.Rows L2
/-- str of an int or of a text -/
def rStrIS : List V → Hp → VK → Prop := fun xs H Q => (∃ i : Int, xs = [.int i] ∧ i.natAbs.log2 < 1920 ∧ Q (.str (toString i)) H) ∨ ∃ a, xs = [.str a] ∧ Q (.str a) H
theorem call_strIS {X : Cx} : CallR X (.type "str") rStrIS := by
  intro pins s σ H xs us Q I r h
  rcases h with h | h
  · exact call_str_int pins s σ H xs us Q I r h
  · exact SkE.call_str_str pins s σ H xs us Q I r h
/-- int of a text -/
def rIntS : List V → Hp → VK → Prop := fun xs H Q => ∃ a n, xs = [.str a] ∧ PySem.intText? a = some n ∧ a.length ≤ 640 ∧ Q (.int n) H
/-- x.split(y) -/
def rSplit : V → List V → Hp → VK → Prop := fun x xs H Q => ∃ a b, x = .str a ∧ xs = [.str b] ∧ (b.length == 0) = false ∧ a.length + 2 ≤ sizeLine ∧ rNewStrs (Txt.split a b) H Q
/-- x.partition(y) -/
def rPart : V → List V → Hp → VK → Prop := fun x xs H Q => ∃ a b, x = .str a ∧ xs = [.str b] ∧ (b.length == 0) = false ∧ a.length ≤ sizeLine ∧
  ∀ p, H p = none → Q (.ref p) (upd H p (.tup [.str (Txt.partition a b).1, .str (Txt.partition a b).2.1, .str (Txt.partition a b).2.2]))
/-- f'..' -/
def tFs (ts : List TE) : TE := fun σ H Q => tJs ts Str.empty σ H fun out H1 => Q (.str out) H1
section
variable {X : Cx} {o e : Expr} {to te : TE}
/-- x.split(y) where x wants a token -/
theorem pet_split {apos pos : Pos} (ho : PET X o to) (he : PE X e te) (hs : starEach [e] X.env = [(false, eval e X.env)] := by rfl) (hbase : attributeBase o "split" X.env (eval o X.env) = eval o X.env := by rfl) (hline : (apos.endLine == pos.line) = true := by rfl) :
    PET X (.Call (.Attribute o "split" apos) [e] [] pos) (tM1 rSplit to te) := by
  intro pins s σ H Q h0 I h
  refine PySem.Call_method1 hbase hs hline (thn (ho pins s σ H _ h0 I h) fun v s1 ⟨x, H1, I1, r1, q1⟩ => ?_)
  obtain ⟨⟨a, rfl⟩, q1⟩ := q1
  obtain ⟨t, rfl⟩ := _root_.id r1
  refine ⟨"str", _, F.plainAttrs_str, F.slot_str_split, F.type_str_split, typeIs_str _ _ _, (fun _ e => nomatch e), Calls.callWith_builtin rfl (Calls.evalArgs_plain (Calls.spliced_cons ?_))⟩
  exact thn (he.run pins s1 σ H1 _ I1 q1) fun u s2 ⟨y, H2, I2, r2, q2⟩ => Calls.spliced_nil (mt_split pins s2 σ H2 _ [y] _ [u] Q I2 r1 (.cons r2 .nil) q2)
end
section
variable {P : Program} {w : World} {K : PySem.W.Frag} {mg : Str → Option Value} {base : Heap}
theorem Ok.mkT {x : Str} {st : Stmt} {N ps : List Str} {k : Nat} {sp : Sp} (G : mg x = some (.ref (He.ga K x))) (F : FnAt K x st) (b : BindAll x st ps) (S : FnScope N ps (defScope st)) (hnc : ∀ y ∈ (defScope st).names, y.2 ≠ .cell) (hps : 1 ≤ ps.length) (len : ∀ vs H Q E, sp vs H Q E → vs.length = ps.length)
    (body : ∀ (cdv : Value) (A : Around) (outer : List Env) (s : Shared) (H : Hp) (vs : List V) (Q : VK) (E : XK), Room k (A.deeper (envOfC x (defScope st) s.heap.objs.size (He.ga K x) cdv)) → sp vs H Q E →
      ∃ t, PSsT (cxOf (CXN P w) P w K mg base N x (defScope st) (He.ga K x) cdv A outer s H E) (defBody st) t ∧ t { nx := fun _ H' => Q .non H', rt := Q } (start N vs) H) : Ok P w K mg base (k + 1) x ps sp := by
  obtain ⟨fd, F⟩ := F
  have e : fdAt K (He.ga K x) = some fd := by
    obtain ⟨oc, od, dV, kV, doc, pm, an, cdv, ct, osl, rfl, lk, _⟩ := F.ex
    unfold fdAt
    rw [lk]
  refine ⟨G, F.kp, fd, e, F.bindsA b, ?_⟩
  obtain ⟨oc, od, dV, kV, doc, pm, an, cdv, ct, osl, rfl, lk, hcd, _, _⟩ := F.ex
  exact fn_ofT lk hcd S hnc hps len fun A outer s H vs Q E hr hsp => body cdv A outer s H vs Q E hr hsp
end
/-- a loop where nothing is let out -/
theorem passes_no {M : Model} {A : Around} {env : Env} : PassesOwn M A env (fun _ _ => False) := fun _ _ z => z.elim
section
variable {σ : L2.St} {H : Hp} {Q : VK}
theorem w_m1' {r : V → List V → Hp → VK → Prop} {to te : TE} (h : to σ H fun x H1 => (∃ a, x = .str a) ∧ te σ H1 fun y H2 => r x [y] H2 Q) : tM1 r to te σ H Q := h
theorem w_fs {ts : List TE} (h : tJs ts Str.empty σ H fun out H1 => Q (.str out) H1) : tFs ts σ H Q := h
theorem w_jnil {acc : Str} {Q : Str → Hp → Prop} (h : Q acc H) : tJs [] acc σ H Q := h
theorem w_jcons {t : TE} {ts : List TE} {acc : Str} {Q : Str → Hp → Prop} (h : t σ H fun x H1 => ∃ y : Str, x = .str y ∧ (acc ++ y).length ≤ sizeLine ∧ tJs ts (acc ++ y) σ H1 Q) : tJs (t :: ts) acc σ H Q := h
theorem w_fmt {te : TE} (h : te σ H fun x H1 => (∃ y : Str, x = .str y ∧ y.length ≤ sizeLine ∧ Q (.str y) H1) ∨ ∃ i : Int, x = .int i ∧ i.natAbs.log2 < 1920 ∧ Q (.str (toString i)) H1) : tFmt te σ H Q := h
theorem w_strI {i : Int} (hz : i.natAbs.log2 < 1920) (h : Q (.str (toString i)) H) : rStrIS [.int i] H Q := .inl ⟨i, rfl, hz, h⟩
theorem w_strS {a : Str} (h : Q (.str a) H) : rStrIS [.str a] H Q := .inr ⟨a, rfl, h⟩
theorem w_split {a b : Str} (hb : (b.length == 0) = false) (hz : a.length + 2 ≤ sizeLine) (h : ∀ p H', Same H H' → H p = none → H' p = some (.lst ((Txt.split a b).map V.str)) → Q (.ref p) H') : rSplit (.str a) [.str b] H Q := ⟨a, b, rfl, rfl, hb, hz, fun p np => h p _ (Same.new np) np upd_same⟩
theorem w_partS {a b : Str} (hb : (b.length == 0) = false) (hz : a.length ≤ sizeLine) (h : ∀ p H', Same H H' → H p = none → H' p = some (.tup [.str (Txt.partition a b).1, .str (Txt.partition a b).2.1, .str (Txt.partition a b).2.2]) → Q (.ref p) H') : rPart (.str a) [.str b] H Q := ⟨a, b, rfl, rfl, hb, hz, fun p np => h p _ (Same.new np) np upd_same⟩
end
end RG
/-! ### sets of texts: set(xs), sorted(set(xs)) -/
namespace RG
open PySem PySem.Spec PyProof.Rows L2
/-- a new set's object -/
abbrev newSet (w : World) : Obj := { cls := .type "set", dict := none, data := .set #[] 0 (.fresh 0 0 (!w.params.followText "set-order")) }
def keyS (e : Int × Value) : Str := match e.2 with
  | .str z _ => z
  | _ => Str.empty
def GoodS (w : World) (e : Int × Value) : Prop := ∃ z tk, e.2 = Value.str z tk ∧ e.1 = hashStr w z
/-- the set of texts at a: S its members, c their number -/
def SetS (w : World) (h : Heap) (a : Addr) (S : Str → Bool) (c : Nat) : Prop :=
  ∃ o es ep t, h.get? a = some o ∧ o.ExactSet ∧ o.data = .set es ep t ∧ (∀ e ∈ es.toList, GoodS w e) ∧ (es.toList.map keyS).Nodup ∧ (∀ k, S k = true ↔ k ∈ es.toList.map keyS) ∧ es.size < scanBound ∧ t.fits es.size = true ∧ es.size = c ∧ Ris t.place.toList ∧ (w.params.followText "set-order" = true ∨ t.led = true)
section
variable {P : Program} {w : World} {h h' : Heap} {a : Addr} {S : Str → Bool} {c : Nat}
theorem SetS.at (R : SetS w h a S c) (k : ∀ o, h.get? a = some o → h'.get? a = some o) : SetS w h' a S c := by
  obtain ⟨o, es, ep, t, ho, r⟩ := R
  exact ⟨o, es, ep, t, k o ho, r⟩
theorem SetS.congr {S' : Str → Bool} (R : SetS w h a S c) (e : ∀ k, S' k = S k) : SetS w h a S' c := by
  rw [show S' = S from funext e]
  exact R
theorem goodS_elems {l : List (Int × Value)} (g : ∀ e ∈ l, GoodS w e) : ElemsOf (PySem.strKind P w) l := fun e he => by
  obtain ⟨k, tk, h1, h2⟩ := g e he
  exact ⟨⟨k, by rw [h1]; exact PySem.strKind_is P w k tk, h2⟩, by rw [h1] <;> rfl⟩
theorem goodS_is {e : Int × Value} (g : GoodS w e) (k : Str) : (PySem.strKind P w).is k e.2 = true ↔ keyS e = k := by
  obtain ⟨z, tk, h1, _⟩ := g
  have hz : keyS e = z := by unfold keyS; rw [h1]
  rw [hz]
  constructor
  · intro q
    rw [h1] at q
    exact (PySem.strKind P w).inj _ _ _ (PySem.strKind_is P w z tk) q
  · rintro rfl
    rw [h1]
    exact PySem.strKind_is P w z tk
theorem goodS_mem {l : List (Int × Value)} (g : ∀ e ∈ l, GoodS w e) (k : Str) : k ∈ l.map keyS ↔ ∃ e ∈ l, (PySem.strKind P w).is k e.2 = true := by
  rw [List.mem_map]
  exact ⟨fun ⟨e, he, q⟩ => ⟨e, he, (goodS_is (g e he) k).2 q⟩, fun ⟨e, he, q⟩ => ⟨e, he, (goodS_is (g e he) k).1 q⟩⟩
theorem setS_new (ho : h.get? a = some (newSet w)) : SetS w h a (fun _ => false) 0 :=
  ⟨_, #[], 0, _, ho, ⟨rfl, rfl, rfl⟩, rfl, (fun e he => by simp at he), (by simp), (fun k => by simp), (by decide), (by rfl), rfl, List.Pairwise.nil, (by
    show _ ∨ (!w.params.followText "set-order") = true
    cases w.params.followText "set-order" <;> simp)⟩
end
section
variable {P : Program} {w : World} {A : Around} {E : Value → Shared → Prop} {s : Shared} {a : Addr} {S : Str → Bool} {c : Nat}
theorem setS_tail {g : Bool → Sem Unit} (hg : ∀ (b : Bool) (s₁ : Shared) (Q' : Unit → Shared → Prop), Q' () s₁ → wpAny (model P w) A (g b) Q' E s₁) {o : Obj} {es : Array (Int × Value)} {ep : Nat} {t : SetTable} (ho : s.heap.get? a = some o) (hex : o.ExactSet) (hd : o.data = .set es ep t)
    {es1 : Array (Int × Value)} {t2 : SetTable} {S' : Str → Bool} (g1 : ∀ e ∈ es1.toList, GoodS w e) (nd1 : (es1.toList.map keyS).Nodup) (m1 : ∀ k, S' k = true ↔ k ∈ es1.toList.map keyS) (hb1 : es1.size < scanBound) (hf2 : t2.fits es1.size = true) (hr : Ris t2.place.toList) (hl : w.params.followText "set-order" = true ∨ t2.led = true) {dm : Bool} {R : Option Bool → Shared → Prop}
    (hR : ∀ h', Heap.SameBut a s.heap h' → SetS w h' a S' es1.size → R (some true) { s with heap := h' }) :
    wpAny (model P w) A (do
        storeSet a es1 t2
        if (!dm && t2.tooFull) = true then do
            g (relayAll t2 es1 (SetTable.grown es1.size)).2.2
            storeSet a (relayAll t2 es1 (SetTable.grown es1.size)).1 (relayAll t2 es1 (SetTable.grown es1.size)).2.1
            pure (some true)
          else pure (some true)) R E s := by
  refine wpAny_bind (wpAny_storeSet_of ho hd ?_ (fits_of_scanBound hb1))
  have ho1 := store_at (es' := es1) (t' := t2) ho hd
  have sb1 := Heap.SameBut.update s.heap a (Obj.putSet es1 t2)
  split
  · have pm := relayAll_perm t2 es1 (SetTable.grown es1.size)
    have hf3 := relayAll_fits t2 es1 (SetTable.grown es1.size)
    have hr3 := relayAll_ris t2 es1 (SetTable.grown es1.size)
    have hl3 := relayAll_led t2 es1 (SetTable.grown es1.size)
    generalize relayAll t2 es1 (SetTable.grown es1.size) = Z at pm hf3 hr3 hl3 ⊢
    obtain ⟨es2, t3, gv⟩ := Z
    dsimp only at pm hf3 hr3 hl3 ⊢
    have hsz : es2.size = es1.size := by rw [← Array.length_toList, pm.length_eq, Array.length_toList]
    have hb2 : es2.size < scanBound := hsz ▸ hb1
    refine wpAny_bind (hg _ _ _ ?_)
    refine wpAny_bind (wpAny_storeSet_of ho1 rfl ?_ (fits_of_scanBound hb2))
    have ho2 := store_at (es' := es2) (t' := t3) ho1 rfl
    refine wpAny_pure (hR _ (sb1.trans (Heap.SameBut.update _ a _)) ⟨_, es2, _, t3, ho2, hex, rfl, fun e he => g1 e (pm.mem_iff.mp he), (pm.map keyS).nodup_iff.mpr nd1, fun k => (m1 k).trans (pm.map keyS).mem_iff.symm, hb2, hf3, hsz, hr3, hl.imp id fun z => by rw [hl3]; exact z⟩)
  · exact wpAny_pure (hR _ sb1 ⟨_, es1, _, t2, ho1, hex, rfl, g1, nd1, m1, hb1, hf2, rfl, hr, hl⟩)
theorem setS_hashed {k : Str} {tk : Tok} {Q : Bool → Shared → Prop} (R : SetS w s.heap a S c) (room : c + 1 < scanBound)
    (hQ : ∀ h', Heap.SameBut a s.heap h' → SetS w h' a (fun j => S j || decide (j = k)) (if S k = true then c else c + 1) → Q (!S k) { s with heap := h' }) :
    wpAny (model P w) A (setAddHashed a (.str k tk) ((PySem.strKind P w).hash k)) Q E s := by
  obtain ⟨o, es, ep, t, ho, hex, hd, g, nd, hm, hb, hf, hn, hr, hl⟩ := R
  have hkey : (PySem.strKind P w).is k (.str k tk) = true := PySem.strKind_is P w k tk
  have hsc : (Value.str k tk).scannable = true := rfl
  have hel : ElemsOf (PySem.strKind P w) es.toList := goodS_elems g
  unfold setAddHashed setAddHashedIn
  refine wpAny_holding (wpAny_bind (wpAny_setState_of ho hd hf ?_))
  dsimp only
  rw [byScan_of hsc hb hel]
  simp only [↓reduceIte]
  unfold setAddByScan
  refine wpAny_bind ?_
  refine wpAny_bind (wpAny_rule ?_)
  refine wpAny_bind (wpAny_setScan_of hkey ho hd hf hel ?_)
  cases hfi : List.findIdx? (fun e => (PySem.strKind P w).is k e.2) es.toList with
  | some j =>
    dsimp only
    obtain ⟨hj, pj, _⟩ := List.findIdx?_eq_some_iff_getElem.mp hfi
    have hSk : S k = true := (hm k).2 ((goodS_mem (P := P) (w := w) g k).2 ⟨es.toList[j], List.getElem_mem hj, pj⟩)
    refine wpAny_pure (wpAny_pure ?_)
    have q := hQ s.heap (Heap.SameBut.refl a s.heap) ⟨o, es, ep, t, ho, hex, hd, g, nd, fun i => by
      rw [Bool.or_eq_true, decide_eq_true_eq, ← hm i]
      exact ⟨fun z => z.elim id fun e => by rw [e]; exact hSk, .inl⟩, hb, hf, by rw [if_pos hSk]; exact hn, hr, hl⟩
    rw [hSk] at q
    exact q
  | none =>
    dsimp only
    have hnk : k ∉ es.toList.map keyS := fun z => by
      obtain ⟨e, he, q⟩ := (goodS_mem (P := P) (w := w) g k).1 z
      have d := List.findIdx?_eq_none_iff.mp hfi e he
      rw [q] at d
      cases d
    have hSk : S k = false := by
      cases q : S k with
      | false => rfl
      | true => exact absurd ((hm k).1 q) hnk
    have hgw : ∀ (b : Bool) {s₁ : Shared} {Q' : Unit → Shared → Prop}, Q' () s₁ → wpAny (model P w) A (match b with | true => rule "set.scan.the-table-gave-way" | false => pure ()) Q' E s₁ := fun b s₁ Q' q => by cases b <;> first | exact wpAny_pure q | exact wpAny_rule q
    have pm := layNew_perm t es ((PySem.strKind P w).hash k) (.str k tk)
    have hf1 := layNew_fits t es ((PySem.strKind P w).hash k) (.str k tk)
    have hr1 := layNew_ris t es ((PySem.strKind P w).hash k) (.str k tk) hr
    have hl1 := layNew_led t es ((PySem.strKind P w).hash k) (.str k tk)
    generalize layNew t es ((PySem.strKind P w).hash k) (.str k tk) = Z at pm hf1 hr1 hl1 ⊢
    obtain ⟨es1, t1, dm, gv⟩ := Z
    dsimp only at pm hf1 hr1 hl1 ⊢
    rw [Array.toList_push] at pm
    have pc : es1.toList.Perm (((PySem.strKind P w).hash k, Value.str k tk) :: es.toList) := pm.trans (List.perm_append_singleton _ _)
    have pk : (es1.toList.map keyS).Perm (k :: es.toList.map keyS) := pc.map keyS
    have g1 : ∀ e ∈ es1.toList, GoodS w e := fun e he => by
      rcases List.mem_cons.mp (pc.mem_iff.mp he) with z | z
      · rw [z]
        exact ⟨k, tk, rfl, rfl⟩
      · exact g e z
    have nd1 : (es1.toList.map keyS).Nodup := pk.nodup_iff.mpr (List.nodup_cons.mpr ⟨hnk, nd⟩)
    have m1 : ∀ i, (S i || decide (i = k)) = true ↔ i ∈ es1.toList.map keyS := fun i => by
      rw [Bool.or_eq_true, decide_eq_true_eq, hm i, pk.mem_iff, List.mem_cons]
      exact Or.comm
    have hsz : es1.size = c + 1 := by rw [← Array.length_toList, pc.length_eq, List.length_cons, Array.length_toList, hn]
    have hb1 : es1.size < scanBound := hsz ▸ room
    have hled : w.params.followText "set-order" = true ∨ t1.led = true := hl.imp id fun z => by rw [hl1]; exact z
    have fin : ∀ h', Heap.SameBut a s.heap h' → SetS w h' a (fun j => S j || decide (j = k)) es1.size → Q true { s with heap := h' } := fun h' sb r => by
      have q := hQ h' sb
      rw [hSk] at q
      rw [hsz] at r
      exact q r
    refine wpAny_bind (hgw _ ?_)
    split
    · refine wpAny_bind ?_
      rw [hashByValue_scannable 8 hsc]
      refine wpAny_pure ?_
      refine setS_tail (fun b s₁ Q' q => by cases b <;> first | exact wpAny_pure q | exact wpAny_rule q) ho hex hd g1 nd1 m1 hb1 ?_ ?_ ?_ (fun h' sb r => by dsimp only; exact wpAny_pure (fin h' sb r))
      · first | (split <;> first | exact hf1 | exact SetTable.fits_plain_off hf1) | exact hf1
      · first | (split <;> exact hr1) | exact hr1
      · first | (split <;> exact hled) | exact hled
    · refine wpAny_bind (wpAny_pure ?_)
      simp only [↓reduceIte]
      exact setS_tail (fun b s₁ Q' q => by cases b <;> first | exact wpAny_pure q | exact wpAny_rule q) ho hex hd g1 nd1 m1 hb1 hf1 hr1 hled (fun h' sb r => by dsimp only; exact wpAny_pure (fin h' sb r))
theorem set_update_strs {I : Addr} {fp wr : List Addr} {G : Array GenState → Array GenState → Prop} {n : Nat} {Pv : Nat → Value → Prop} {St : Nat → Shared → Prop} {R : Result → Shared → Prop}
    (W : WalksS P w A.in1 I fp wr G n Pv St) (S : Addr) (hSf : S ∉ fp) (zs : List Str) (hn : n = zs.length) (hb : zs.length + 1 < scanBound) (hval : ∀ i v, Pv i v → ∃ z t, zs[i]? = some z ∧ v = .str z t) :
    ∀ (k i : Nat) (s : Shared), n - i = k → i ≤ n → St i s → (∃ c, c ≤ i ∧ SetS w s.heap S (fun j => decide (j ∈ zs.take i)) c) →
      (∀ s' c, Moved (S :: wr) G s s' → c ≤ n → SetS w s'.heap S (fun j => decide (j ∈ zs)) c → R (.ok (.ret .none)) s') → codeAny (model P w) A (.builtin "set.update.loop" ⟨[.ref S, .ref I], []⟩) R s := by
  have nw : S ∉ wr := fun h => hSf (W.sub _ h)
  have sb0 : ∀ b ∈ wr, b ∈ S :: wr := fun b hb => List.mem_cons_of_mem _ hb
  intro k
  induction k with
  | zero =>
    intro i s hk' hi hst ⟨c, hc, hS⟩ hR
    have hin : i = n := by omega
    subst hin
    refine codeAny_builtin F.entry_set_update_loop ?_
    rw [Around.under_plainId F.plain_set_update_loop _]
    show wpAny _ A.in1 (pyNext (.ref I) >>= _) _ _ s
    refine wpAny_bind (W.done s _ _ hst fun s' hm => ?_)
    show wpAny _ A.in1 (ret Value.none) _ _ s'
    rw [show zs.take i = zs from List.take_of_length_le (by omega)] at hS
    exact wpAny_pure (hR s' c (hm.mono sb0) hc (hS.at fun o e => hm.heap S o nw e))
  | succ k ih =>
    intro i s hk' hi hst ⟨c, hc, hS⟩ hR
    have hlt : i < n := by omega
    refine codeAny_builtin F.entry_set_update_loop ?_
    rw [Around.under_plainId F.plain_set_update_loop _]
    show wpAny _ A.in1 (pyNext (.ref I) >>= _) _ _ s
    refine wpAny_bind (W.item i s _ _ hlt hst fun v s' hP hst' hm => ?_)
    obtain ⟨z, t, hz, rfl⟩ := hval i v hP
    have hS' : SetS w s'.heap S (fun j => decide (j ∈ zs.take i)) c := hS.at fun o e => hm.heap S o nw e
    show wpAny _ A.in1 (holding [Value.str z t] (setAdd S (.str z t)) >>= _) _ _ s'
    refine wpAny_bind (wpAny_holding ?_)
    unfold setAdd
    refine wpAny_holding ?_
    refine wpAny_bind ((PySem.strKind P w).pyHash (k := z) (PySem.strKind_is _ _ _ _) ?_)
    refine setS_hashed (s := { s' with toks := s'.toks + 1 }) hS' (by omega) fun h' hsb hS2 => ?_
    have hS3 : SetS w h' S (fun j => decide (j ∈ zs.take (i + 1))) (if decide (z ∈ zs.take i) = true then c else c + 1) := hS2.congr fun j => by
      rw [List.take_add_one, hz]
      simp [List.mem_append]
    have hc3 : (if decide (z ∈ zs.take i) = true then c else c + 1) ≤ i + 1 := by split <;> omega
    refine wpAny_pure ⟨plainId_quiet F.plain_set_update_loop _, ih (i + 1) _ (by omega) hlt (W.frame _ s' _ _ hst' (Nat.le_succ _) fun b hb o e => by rw [hsb.2 b (fun h : b = S => hSf (by rw [← h]; exact hb))]; exact e) ⟨_, hc3, hS3⟩ fun s'' c2 hm'' hc'' hS'' => ?_⟩
    refine hR s'' c2 (Moved.trans W.gtrans ((hm.mono sb0).then_heap (Nat.le_succ _) fun b o hb e => by rw [hsb.2 b (fun h : b = S => hb (by rw [h]; exact List.mem_cons_self))]; exact e) hm'') hc'' hS''
theorem strs_of : ∀ {us : List Value} {xs : List Str}, StrsAre us xs → ∀ (i : Nat) (v : Value), us[i]? = some v → ∃ t, v = .str (xs.getD i Str.empty) t
  | _, _, .nil, i, v, h => by simp at h
  | _, _, .cons z t r, 0, v, h => by
    simp at h
    subst h
    exact ⟨t, rfl⟩
  | _, _, .cons z t r, i + 1, v, h => by
    obtain ⟨u, e⟩ := strs_of r i v (by simpa using h)
    exact ⟨u, by simpa using e⟩
set_option maxHeartbeats 3200000 in
theorem call_set_strL {l : Addr} {items : Array Value} (zs : List Str) {Q : Value → Shared → Prop} (hh : A.handled = none) (hl : s.heap.IsList l items) (hit : StrsAre items.toList zs) (hb : zs.length + 1 < scanBound)
    (h : ∀ (h' : Heap) (tk c : Nat), SetS w h' s.heap.objs.size (fun j => decide (j ∈ zs)) c → c ≤ zs.length → (∀ b o, s.heap.get? b = some o → h'.get? b = some o) → Q (.ref s.heap.objs.size) { s with heap := h', toks := tk }) :
    wpAny (model P w) A (call (.type "set") [.ref l]) Q E s := by
  have hisz : items.size = zs.length := by rw [← Array.length_toList]; exact StrsAre.len_eq hit
  obtain ⟨c0, tl, hmro⟩ := PySem.F.called_set.mro
  have hmade := PySem.F.called_set.made
  have hsub := PySem.F.called_set.sub
  refine wpAny_call (codeAny_of_tree ?_)
  show wpAny _ _ (callAny (.type "set") _) _ _ _
  refine wpAny_pure ⟨Code.quiet_builtin _ (by decide +kernel), codeAny_builtin PySem.F.entry_type_call ?_⟩
  rw [Around.under_plain (weight_type_call_type "set" [.ref l] []) rfl]
  have h1 := PySem.F.called_set.notType
  have h2 := PySem.F.called_set.canCreate
  have hct := PySem.F.typeCall_set_1 (.ref l)
  repeat (any_goals (first | assumption | wp_step))
  refine codeAny_mono (code_set_led1 (.ref l) (E := E) (Q₁ := fun obj s₁ => obj = .ref s.heap.objs.size ∧ s₁ = { s with heap := s.heap.push (newSet w) }) ⟨rfl, rfl⟩) fun r s₁ hr => ?_
  cases r with
  | error e => exact hr
  | ok fl =>
    cases fl with
    | ret obj =>
      obtain ⟨rfl, rfl⟩ := hr
      have hS : (s.heap.push (newSet w)).get? s.heap.objs.size = some (newSet w) := Heap.get?_push_size _ rfl
      have hT : Shared.TypeIs { s with heap := s.heap.push (newSet w) } (.ref s.heap.objs.size) "set" := ⟨_, hS, rfl⟩
      have hli := PySem.F.called_set.init.lookup
      have hbi := PySem.F.called_set.init.bind (.ref s.heap.objs.size)
      repeat (any_goals (first | assumption | wp_step))
      refine codeAny_mono (codeAny_call_builtin (R := wants (fun r s₂ => r = .none ∧ ∃ h' tk c, s₂ = { s with heap := h', toks := tk } ∧ SetS w h' s.heap.objs.size (fun j => decide (j ∈ zs)) c ∧ c ≤ zs.length ∧ (∀ b o, s.heap.get? b = some o → h'.get? b = some o)) E) PySem.F.called_set.init.plain PySem.F.entry_set_init (check_set_init_1 hT ?_)) fun r₂ s₂ hr₂ => ?_
      · obtain ⟨ol, hol, hcl, nl, hdl⟩ := hl
        obtain ⟨ocls, odict, odata, oslots⟩ := ol
        simp only at hcl hdl
        subst hcl; subst hdl
        have hol' : (s.heap.push (newSet w)).get? l = some { cls := .type "list", dict := odict, data := .seq items nl, slots := oslots } := Heap.get?_push_of_some _ hol
        have hsls := PySem.F.sub_list_set
        have hslf := PySem.F.sub_list_frozenset
        have hne : (Value.type "list" == Value.type "dict") = false := by decide
        have hl1 : (s.heap.push (newSet w)).IsList l items := ⟨_, hol', rfl, nl, rfl⟩
        unfold Builtin.«set.__init__» noKeywords Builtin.Frozenset.updateFrom
        generalize hPI : pyIter = PI
        wp_walk
        subst hPI
        refine wpAny_pyIter_list hl1 ?_
        refine wpAny_bind (wpAny_runValue ?_)
        have hlS : l < s.heap.objs.size := Heap.lt_size hol
        have hh3 : A.in1.in1.in1.handled = none := by simp [hh]
        have hneI : l ≠ (s.heap.push (newSet w)).objs.size := by rw [Heap.size_push]; exact Nat.ne_of_lt (Nat.lt_succ_of_lt hlS)
        have hSf : s.heap.objs.size ∉ [(s.heap.push (newSet w)).objs.size, l] := by
          rw [Heap.size_push]
          simp only [List.mem_cons, List.not_mem_nil, or_false, not_or]
          exact ⟨Nat.ne_of_lt (Nat.lt_succ_self _), Nat.ne_of_gt hlS⟩
        have hval : ∀ (i : Nat) (v : Value), items[i]? = some v → ∃ z t, zs[i]? = some z ∧ v = .str z t := fun i v hv => by
          have hi : i < zs.length := by rw [← hisz]; exact (Array.getElem?_eq_some_iff.mp hv).1
          obtain ⟨t, e⟩ := strs_of hit i v (by rw [Array.getElem?_toList]; exact hv)
          exact ⟨zs[i], t, List.getElem?_eq_getElem hi, by rw [e, List.getD_eq_getElem?_getD, List.getElem?_eq_getElem hi] <;> rfl⟩
        refine set_update_strs ((Walks.list hh3 _ l hneI items).toS) s.heap.objs.size hSf zs hisz hb hval (items.size - 0) 0 _ (by omega) (Nat.zero_le _) ⟨⟨_, Heap.get?_push_size _ rfl, rfl, rfl⟩, (hl1.push _)⟩ ⟨0, Nat.le_refl 0, ?_⟩ ?hR
        · exact (setS_new (Heap.get?_push_of_some _ hS)).congr fun k => by simp
        case hR =>
          intro s' c' hm hc' hS'
          obtain ⟨h', g2, d', tk', os'⟩ := s'
          have eg : g2 = s.gens := hm.gens
          have ed : d' = s.drawn := hm.drawn
          have eo : os' = s.os := hm.os
          subst eg; subst ed; subst eo
          show wpAny _ _ _ _ _ _
          refine wpAny_pure ?_
          show wpAny _ _ (ret Value.none) _ _ _
          rw [hisz] at hc'
          refine wpAny_pure ⟨rfl, h', tk', c', rfl, hS', hc', fun b o e => ?_⟩
          have hb0 : b < s.heap.objs.size := Heap.lt_size e
          refine hm.heap b o ?_ (Heap.get?_push_of_some _ (Heap.get?_push_of_some _ e))
          simp only [List.mem_cons, List.not_mem_nil, or_false, not_or]
          exact ⟨Nat.ne_of_lt hb0, by rw [Heap.size_push]; exact Nat.ne_of_lt (Nat.lt_succ_of_lt hb0)⟩
      · cases r₂ with
        | error e => exact hr₂
        | ok fl₂ =>
          cases fl₂ with
          | ret r =>
            obtain ⟨rfl, h', tk, c', rfl, hS', hc', hk'⟩ := hr₂
            repeat (any_goals (first | assumption | wp_step))
            exact h _ _ _ hS' hc' hk'
          | _ => exact hr₂.elim
    | _ => exact hr.elim
set_option maxHeartbeats 3200000 in
theorem call_set_strT {l : Addr} {items : Array Value} (zs : List Str) {Q : Value → Shared → Prop} (hh : A.handled = none) (hl : s.heap.IsTuple l items) (hit : StrsAre items.toList zs) (hb : zs.length + 1 < scanBound)
    (h : ∀ (h' : Heap) (tk c : Nat), SetS w h' s.heap.objs.size (fun j => decide (j ∈ zs)) c → c ≤ zs.length → (∀ b o, s.heap.get? b = some o → h'.get? b = some o) → Q (.ref s.heap.objs.size) { s with heap := h', toks := tk }) :
    wpAny (model P w) A (call (.type "set") [.ref l]) Q E s := by
  have hisz : items.size = zs.length := by rw [← Array.length_toList]; exact StrsAre.len_eq hit
  obtain ⟨c0, tl, hmro⟩ := PySem.F.called_set.mro
  have hmade := PySem.F.called_set.made
  have hsub := PySem.F.called_set.sub
  refine wpAny_call (codeAny_of_tree ?_)
  show wpAny _ _ (callAny (.type "set") _) _ _ _
  refine wpAny_pure ⟨Code.quiet_builtin _ (by decide +kernel), codeAny_builtin PySem.F.entry_type_call ?_⟩
  rw [Around.under_plain (weight_type_call_type "set" [.ref l] []) rfl]
  have h1 := PySem.F.called_set.notType
  have h2 := PySem.F.called_set.canCreate
  have hct := PySem.F.typeCall_set_1 (.ref l)
  repeat (any_goals (first | assumption | wp_step))
  refine codeAny_mono (code_set_led1 (.ref l) (E := E) (Q₁ := fun obj s₁ => obj = .ref s.heap.objs.size ∧ s₁ = { s with heap := s.heap.push (newSet w) }) ⟨rfl, rfl⟩) fun r s₁ hr => ?_
  cases r with
  | error e => exact hr
  | ok fl =>
    cases fl with
    | ret obj =>
      obtain ⟨rfl, rfl⟩ := hr
      have hS : (s.heap.push (newSet w)).get? s.heap.objs.size = some (newSet w) := Heap.get?_push_size _ rfl
      have hT : Shared.TypeIs { s with heap := s.heap.push (newSet w) } (.ref s.heap.objs.size) "set" := ⟨_, hS, rfl⟩
      have hli := PySem.F.called_set.init.lookup
      have hbi := PySem.F.called_set.init.bind (.ref s.heap.objs.size)
      repeat (any_goals (first | assumption | wp_step))
      refine codeAny_mono (codeAny_call_builtin (R := wants (fun r s₂ => r = .none ∧ ∃ h' tk c, s₂ = { s with heap := h', toks := tk } ∧ SetS w h' s.heap.objs.size (fun j => decide (j ∈ zs)) c ∧ c ≤ zs.length ∧ (∀ b o, s.heap.get? b = some o → h'.get? b = some o)) E) PySem.F.called_set.init.plain PySem.F.entry_set_init (check_set_init_1 hT ?_)) fun r₂ s₂ hr₂ => ?_
      · obtain ⟨ol, hol, hcl, nl, hdl⟩ := hl
        obtain ⟨ocls, odict, odata, oslots⟩ := ol
        simp only at hcl hdl
        subst hcl; subst hdl
        have hol' : (s.heap.push (newSet w)).get? l = some { cls := .type "tuple", dict := odict, data := .seq items nl, slots := oslots } := Heap.get?_push_of_some _ hol
        have hsls := PySem.F.sub_tuple_set
        have hslf := PySem.F.sub_tuple_frozenset
        have hne : (Value.type "tuple" == Value.type "dict") = false := by decide
        have hl1 : (s.heap.push (newSet w)).IsTuple l items := ⟨_, hol', rfl, nl, rfl⟩
        unfold Builtin.«set.__init__» noKeywords Builtin.Frozenset.updateFrom
        generalize hPI : pyIter = PI
        wp_walk
        subst hPI
        refine wpAny_pyIter_tuple hl1 ?_
        refine wpAny_bind (wpAny_runValue ?_)
        have hlS : l < s.heap.objs.size := Heap.lt_size hol
        have hh3 : A.in1.in1.in1.handled = none := by simp [hh]
        have hneI : l ≠ (s.heap.push (newSet w)).objs.size := by rw [Heap.size_push]; exact Nat.ne_of_lt (Nat.lt_succ_of_lt hlS)
        have hSf : s.heap.objs.size ∉ [(s.heap.push (newSet w)).objs.size, l] := by
          rw [Heap.size_push]
          simp only [List.mem_cons, List.not_mem_nil, or_false, not_or]
          exact ⟨Nat.ne_of_lt (Nat.lt_succ_self _), Nat.ne_of_gt hlS⟩
        have hval : ∀ (i : Nat) (v : Value), items[i]? = some v → ∃ z t, zs[i]? = some z ∧ v = .str z t := fun i v hv => by
          have hi : i < zs.length := by rw [← hisz]; exact (Array.getElem?_eq_some_iff.mp hv).1
          obtain ⟨t, e⟩ := strs_of hit i v (by rw [Array.getElem?_toList]; exact hv)
          exact ⟨zs[i], t, List.getElem?_eq_getElem hi, by rw [e, List.getD_eq_getElem?_getD, List.getElem?_eq_getElem hi] <;> rfl⟩
        refine set_update_strs ((Walks.tuple hh3 _ l hneI items).toS) s.heap.objs.size hSf zs hisz hb hval (items.size - 0) 0 _ (by omega) (Nat.zero_le _) ⟨⟨_, Heap.get?_push_size _ rfl, rfl, rfl⟩, (hl1.push _)⟩ ⟨0, Nat.le_refl 0, ?_⟩ ?hR
        · exact (setS_new (Heap.get?_push_of_some _ hS)).congr fun k => by simp
        case hR =>
          intro s' c' hm hc' hS'
          obtain ⟨h', g2, d', tk', os'⟩ := s'
          have eg : g2 = s.gens := hm.gens
          have ed : d' = s.drawn := hm.drawn
          have eo : os' = s.os := hm.os
          subst eg; subst ed; subst eo
          show wpAny _ _ _ _ _ _
          refine wpAny_pure ?_
          show wpAny _ _ (ret Value.none) _ _ _
          rw [hisz] at hc'
          refine wpAny_pure ⟨rfl, h', tk', c', rfl, hS', hc', fun b o e => ?_⟩
          have hb0 : b < s.heap.objs.size := Heap.lt_size e
          refine hm.heap b o ?_ (Heap.get?_push_of_some _ (Heap.get?_push_of_some _ e))
          simp only [List.mem_cons, List.not_mem_nil, or_false, not_or]
          exact ⟨Nat.ne_of_lt hb0, by rw [Heap.size_push]; exact Nat.ne_of_lt (Nat.lt_succ_of_lt hb0)⟩
      · cases r₂ with
        | error e => exact hr₂
        | ok fl₂ =>
          cases fl₂ with
          | ret r =>
            obtain ⟨rfl, h', tk, c', rfl, hS', hc', hk'⟩ := hr₂
            repeat (any_goals (first | assumption | wp_step))
            exact h _ _ _ hS' hc' hk'
          | _ => exact hr₂.elim
    | _ => exact hr.elim
/-- sorted(s) -/
theorem sorted_setS {Q : Value → Shared → Prop} (R : SetS w s.heap a S c) (hh : A.handled = none) (h64 : c < 64)
    (hQ : ∀ s' p (out : Array Value) (n : Nat) (ys : List Str), (∀ b o, s.heap.get? b = some o → s'.heap.get? b = some o) → s'.gens = s.gens → s'.os = s.os → s.heap.objs.size ≤ p → s'.heap.get? p = some (seqObj "list" out n) → StrsAre out.toList ys → sortedS ys = true → ys.Nodup → (∀ k, k ∈ ys ↔ S k = true) → ys.length = c → Q (.ref p) s') :
    wpAny (model P w) A (call (.builtin "sorted") [.ref a]) Q E s := by
  obtain ⟨o, es, ep, t, ho, hex, hd, g, nd, hm, hb, hf, hn, hr, hl⟩ := R
  refine Calls.call_function_entry PyProof.Rows.kind_sorted PyProof.Rows.plain_sorted PyProof.Rows.entry_sorted (PyProof.Rows.args_sorted1 _) ?_
  unfold Builtin.«sorted»
  refine wpAny_bind (m := checkCount "sorted" 1 1 _) (wpAny_pure ?_)
  refine wpAny_bind (collect_set (A := A.in1) hh ⟨o, ho, hex.1, hd⟩ hf hb hr hl fun s1 vs k1 hz g1 o1 pm => ?_)
  have hvl : vs.length = c := by rw [pm.length_eq, List.length_map, Array.length_toList]; exact hn
  have hex2 : ∀ v ∈ vs, ∃ z tk, v = Value.str z tk := fun v hv => by
    obtain ⟨e, he, q⟩ := List.mem_map.mp (pm.mem_iff.mp hv)
    obtain ⟨z, tk, h1, _⟩ := g e he
    exact ⟨z, tk, by rw [← q]; exact h1⟩
  have hS : StrsAre vs (vs.map fun v => keyS (0, v)) := by
    clear pm hvl
    induction vs with
    | nil => exact .nil
    | cons v vs ih =>
      obtain ⟨z, tk, rfl⟩ := hex2 v List.mem_cons_self
      exact .cons z tk (ih fun u hu => hex2 u (List.mem_cons_of_mem _ hu))
  have pk : (vs.map fun v => keyS (0, v)).Perm (es.toList.map keyS) := by
    have q := pm.map fun v => keyS (0, v)
    rw [List.map_map] at q
    exact q
  refine wpAny_bind (wpAny_newList ?_ (by rw [hvl, sizeLine_eq]; omega))
  have hoL : (s1.heap.push (seqObj "list" vs.toArray 0)).get? s1.heap.objs.size = some (seqObj "list" vs.toArray 0) := Heap.get?_push_size _ rfl
  refine wpAny_bind (wpAny_holding (wpAny_call_entry PyProof.Rows.slot_list_sort ⟨_, hoL, rfl⟩ PyProof.Rows.entry_list_sort
    (list_sort_treeK strKind_oneLt (s := { s1 with heap := s1.heap.push (seqObj "list" vs.toArray 0) }) hoL hS.keysOf (fun v₁ v₂ rest e => keyKind_strs (by rw [← e]; exact hS)) (by rw [hvl]; exact h64) fun st' hp hs => ⟨_, rfl, ?_⟩) (PyProof.Rows.args_list_sort _)))
  obtain ⟨ys, y1, y2, y3⟩ := sorted_out_str hS hp hs
  obtain ⟨n, hc⟩ := PyProof.Rows.sortedHeap_at (vs := vs) (out := (arrOf st').map (·.2)) hoL
  have pn : ys.Perm (es.toList.map keyS) := y2.trans pk
  refine wpAny_pure ⟨_, rfl, hQ _ s1.heap.objs.size ((arrOf st').map (·.2)) n ys (fun b u e => ?_) g1 o1 hz hc y1 y3 (pn.nodup_iff.mpr nd) (fun k => by rw [pn.mem_iff, ← hm k]) (by rw [pn.length_eq, List.length_map, Array.length_toList]; exact hn)⟩
  have q := k1 b u e
  have hlt := Heap.lt_size q
  show (PyProof.Rows.sortedHeap (s1.heap.push (seqObj "list" vs.toArray 0)) s1.heap.objs.size vs ((arrOf st').map (·.2))).get? b = some u
  rw [PyProof.Rows.sortedHeap_old (Nat.ne_of_lt hlt) (by rw [size_push']; exact Nat.lt_succ_of_lt hlt)]
  exact Heap.get?_push_of_some _ q
end
/-- the set of texts at a -/
def SetSO (w : World) (a : Addr) (S : Str → Bool) (c : Nat) : HO := .ext fun h => SetS w h a S c
theorem setSO_new {w : World} {P : Program} {H : Hp} {h : Heap} {a : Addr} {S : Str → Bool} {c : Nat} (R : SetS w h a S c) : ObjOk P w H h a (SetSO w a S c) := by
  have ⟨o, _, _, _, ho, _⟩ := R
  exact ⟨R, ⟨o, ho⟩, fun h1 h2 p k => SetS.at p k⟩
theorem SetS.le {w : World} {h : Heap} {a : Addr} {S : Str → Bool} {c : Nat} {L : List Str} (R : SetS w h a S c) (hL : ∀ z, S z = true → z ∈ L) : c ≤ L.length := by
  obtain ⟨o, es, ep, t, ho, hex, hd, g, nd, hm, hb, hf, hn, _⟩ := R
  have e : (es.toList.map keyS).length = c := by rw [List.length_map, Array.length_toList]; exact hn
  rw [← e]
  have gen : ∀ {l L : List Str}, l.Nodup → (∀ x ∈ l, x ∈ L) → l.length ≤ L.length := by
    intro l
    induction l with
    | nil => intro L _ _; exact Nat.zero_le _
    | cons x l ih =>
      intro L n h
      rw [List.nodup_cons] at n
      have hx := h x (by simp)
      have := ih (L := L.erase x) n.2 fun y hy => (List.mem_erase_of_ne (fun (z : y = x) => n.1 (by rw [← z]; exact hy))).mpr (h y (by simp [hy]))
      rw [List.length_erase_of_mem hx] at this
      have := List.length_pos_of_mem hx
      rw [List.length_cons]
      omega
  exact gen nd fun x hx => hL x ((hm x).2 hx)
/-- set(xs) of texts; sorted of it, fewer than 64 members -/
def rSetS (K : PySem.W.Frag) (w : World) : List V → Hp → VK → Prop := fun xs H Q => ∃ (p : Addr) (zs : List Str), xs = [.ref p] ∧ (SqL K H p (zs.map V.str) ∨ SqT K H p (zs.map V.str)) ∧ zs.length ≤ 1000 ∧ ∀ a c, H a = none → Q (.ref a) (upd H a (SetSO w a (fun z => decide (z ∈ zs)) c))
def rSortS (w : World) : List V → Hp → VK → Prop := fun xs H Q => ∃ (a : Addr) (S : Str → Bool) (c : Nat) (L : List Str), xs = [.ref a] ∧ H a = some (SetSO w a S c) ∧ (∀ z, S z = true → z ∈ L) ∧ L.length < 64 ∧
  ∀ (ys : List Str) (p : Addr), sortedS ys = true → ys.Nodup → (∀ z, z ∈ ys ↔ S z = true) → H p = none → Q (.ref p) (upd H p (.lst (ys.map V.str)))
section
variable {X : Cx}
theorem cr_setS (hc : X.calm = true) : CallR X (.type "set") (rSetS X.K X.w) := by
  intro pins s σ H xs us Q I r h
  obtain ⟨p, zs, rfl, hs, hl, q⟩ := h
  obtain ⟨u, rfl, ru⟩ := vals1 r
  cases (show u = Value.ref p from ru)
  have fin : ∀ (h' : Heap) (tk c : Nat), SetS X.w h' s.heap.objs.size (fun j => decide (j ∈ zs)) c → c ≤ zs.length → (∀ b o, s.heap.get? b = some o → h'.get? b = some o) → EP X pins σ Q (.ref s.heap.objs.size) { s with heap := h', toks := tk } := fun h' tk c R _ hk =>
    ⟨.ref s.heap.objs.size, _, I.laid (t' := tk) hk (Nat.le_refl _) (setSO_new R), rfl, q _ c (I.hok.fresh (Nat.le_refl _))⟩
  rcases hs with hs | hs
  · obtain ⟨its, rv, ⟨ob, n, ho, hcl, hdn, hd⟩, hlen⟩ := I.list hs
    exact call_set_strL zs (I.ok.hd hc) ⟨ob, ho, hcl, n, hd⟩ rv.strs (by unfold scanBound; omega) fin
  · obtain ⟨its, rv, ⟨ob, ho, hcl, n, hd⟩, hlen⟩ := I.tuple hs
    exact call_set_strT zs (I.ok.hd hc) ⟨ob, ho, hcl, n, hd⟩ rv.strs (by unfold scanBound; omega) fin
theorem cr_sortS (hc : X.calm = true) : CallR X (.builtin "sorted") (rSortS X.w) := by
  intro pins s σ H xs us Q I r h
  obtain ⟨a, S, c, L, rfl, ha, hL, h64, q⟩ := h
  obtain ⟨u, rfl, ru⟩ := vals1 r
  cases (show u = Value.ref a from ru)
  have R : SetS X.w s.heap a S c := (I.hok a _ ha).1
  have hc64 := Nat.lt_of_le_of_lt (R.le hL) h64
  refine sorted_setS R (I.ok.hd hc) hc64 fun s' p out n ys hk eg eo hp hob hS hso hnd hmem hl => ?_
  have hlen : (ys.map V.str).length ≤ sizeLine := by rw [List.length_map, hl, sizeLine_eq]; omega
  have hn : H p = none := I.hok.fresh hp
  have J : Inv X pins σ (upd H p (.lst (ys.map V.str))) { s with heap := s'.heap, gens := s'.gens, drawn := s'.drawn, toks := s'.toks } :=
    I.call (ch := []) (Un.laid hk hp hn) (I.hok.laid hk hp ⟨hlen, out.toList, n, vals_of_strs hS, hob⟩) (by rw [eg]; exact I.bare) (fun _ z => nomatch z)
  have e : s' = { s with heap := s'.heap, gens := s'.gens, drawn := s'.drawn, toks := s'.toks } := by
    cases s'
    cases s
    cases eo
    rfl
  rw [e]
  exact ⟨.ref p, _, J, rfl, q ys p hso hnd hmem hn⟩
end
end RG
/-! ### the head in parts: the part of the heap by its addresses, written down; three runs in place of one -/
namespace RG
open PySem PySem.Spec PyProof.Rows L2
def obsA (as : List Addr) (fa : List He.Fa) (fn : List He.DefD) (tf : List He.Defn) (ex : PySem.W.Frag → Bool) (g : Addr → Option Obj) : He.AlX := (He.obsT fa fn [] (He.frT g as), ex (He.frT g as) && He.tabsB g tf (He.frT g as))
theorem saysA_of {as : List Addr} {fa : List He.Fa} {fn : List He.DefD} {tf : List He.Defn} {ex : PySem.W.Frag → Bool} {w : World} {h : Heap} (e : obsA as fa fn tf ex h.get? = He.valX fn [] w) : He.SaysX fa fn [] tf ex w h (He.frT h.get? as) := by
  have e1 : He.obsT fa fn [] (He.frT h.get? as) = He.valT fn [] w := congrArg (fun y : He.AlX => y.1) e
  have e2 : (ex (He.frT h.get? as) && He.tabsB h.get? tf (He.frT h.get? as)) = true := congrArg (fun y : He.AlX => y.2) e
  obtain ⟨m1, m2⟩ := He.ba e2
  have each : ∀ p ∈ tf, PySem.W.codeHdIn (He.frT h.get? as) (He.cT (He.frT h.get? as) p).1 (He.cT (He.frT h.get? as) p).2 = true ∧ ∃ o, h.get? (He.cT (He.frT h.get? as) p).2 = some o ∧ He.emptyTab o = true := fun p hp => by
    obtain ⟨m3, m4⟩ := He.ba (List.all_eq_true.mp m2 p hp)
    refine ⟨m3, ?_⟩
    cases q : h.get? (He.cT (He.frT h.get? as) p).2 with
    | none =>
      rw [q] at m4
      cases m4
    | some o =>
      rw [q] at m4
      exact ⟨o, rfl, m4⟩
  refine ⟨e1, m1, fun p hp => (each p hp).1, fun p hp => ?_, fun p hp => ?_⟩
  · obtain ⟨_, o, q, y⟩ := each p hp
    exact He.frT_none q y
  · obtain ⟨_, o, q, y⟩ := each p hp
    rw [q, He.emptyTab_eq y]
def hookA (as : List Addr) (fa : List He.Fa) (fn : List He.DefD) (tf : List He.Defn) (ex : PySem.W.Frag → Bool) : PySem.W.Hook where
  α := He.AlX
  obs := fun s => obsA as fa fn tf ex s.heap.get?
  val := fun w => He.valX fn [] w
  says := fun w h => ∃ K : PySem.W.Frag, K.In h ∧ He.SaysX fa fn [] tf ex w h K
  of := fun _ _ e => ⟨_, He.frT_in, saysA_of e⟩
  keeps := fun _ _ _ ⟨K, hK, c⟩ k => ⟨K, PySem.W.Frag.In.keeps hK k, c.t, c.more, c.hd, c.out, fun p hp => k _ _ (c.empty p hp)⟩
theorem obsA_eq {as : List Addr} {fa : List He.Fa} {fn : List He.DefD} {tf : List He.Defn} {ex : PySem.W.Frag → Bool} {g : Addr → Option Obj} {s : Shared} (h : ∀ a, g a = s.heap.get? a) : obsA as fa fn tf ex g = (hookA as fa fn tf ex).obs s := by
  rw [show g = s.heap.get? from funext h] <;> rfl
/-- the top, run to its end -/
noncomputable abbrev topE (p : Program) (M : Nat) (w : World) (os : OsState) : Option PySem.W.SharedT := HandSHeadRun.endF (HandSHeadRun.stepQ (HandSHeadRun.denQ HandSHeadRun.tabQ) p w) M p w os
abbrev kA (as : List Addr) (s : PySem.W.SharedT) : PySem.W.Frag := He.frT (HandSHeadRun.getT s) as
theorem runs_join {r : PySem.W.OpenRow} {q : Program} {as : List Addr} {fa : List He.Fa} {fn : List He.DefD} {tf : List He.Defn} {ex : PySem.W.Frag → Bool} {M : Nat} {loose : List Str} {w : World}
    (h1 : ∀ os, (topE r.prog M w os).map (fun s => (HandSHeadRun.looksF r.prog (PySem.W.boot_heap w.params) s.abs, HandSHeadRun.seenQ q loose (importedModules r.prog.main.body) (fun s => PySem.W.xlAt q [] s && PySem.W.recOk r.toRowW.records s) s.abs)) = some (true, PySem.W.openGood q loose))
    (h2 : ∀ os, (topE r.prog M w os).map (fun s => (fa.all (fun f => f.ok (kA as s)), fn.map fun d => He.fnW (kA as s) d.at_)) = some (true, fn.map He.DefD.val))
    (h3 : ∀ os, (topE r.prog M w os).map (fun s => (fn.all (fun d => d.ok (kA as s)), ex (kA as s) && He.tabsB (HandSHeadRun.getT s) tf (kA as s))) = some (true, true)) :
    HandSHeadRun.RunEq r q (hookA as fa fn tf ex) (fun s => obsA as fa fn tf ex (HandSHeadRun.getT s)) M loose w := by
  intro os
  have g1 := h1 os
  have g2 := h2 os
  have g3 := h3 os
  show (topE r.prog M w os).map _ = _
  cases e : topE r.prog M w os with
  | none =>
    rw [e] at g1
    cases g1
  | some s =>
    rw [e] at g1 g2 g3
    obtain ⟨a1, a2⟩ := Prod.mk.inj (Option.some.inj g1)
    obtain ⟨b1, b2⟩ := Prod.mk.inj (Option.some.inj g2)
    obtain ⟨c1, c2⟩ := Prod.mk.inj (Option.some.inj g3)
    have d1 : He.obsT fa fn [] (kA as s) = He.valT fn [] w := by
      show ((fa.all (fun f => f.ok (kA as s)) && fn.all (fun d => d.ok (kA as s)), fn.map fun d => He.fnW (kA as s) d.at_), _) = ((true, fn.map He.DefD.val), _)
      rw [b1, b2, c1]
      rfl
    have d2 : obsA as fa fn tf ex (HandSHeadRun.getT s) = He.valX fn [] w := by
      show (He.obsT fa fn [] (kA as s), ex (kA as s) && He.tabsB (HandSHeadRun.getT s) tf (kA as s)) = (He.valT fn [] w, true)
      rw [d1, c2]
    show some (_, _, obsA as fa fn tf ex (HandSHeadRun.getT s)) = some (_, _, He.valX fn [] w)
    rw [a1, a2, d2]
end RG
namespace RG
open PySem PySem.Spec PyProof.Rows L2
def top (i : Nat) : Stmt := PySem.Challenge.pw_rollgates_k80_whole_saved_and_woken.main.body.getD i (.Pass ⟨0, 0, 0, 0⟩)
abbrev s__wall : Stmt := top 0
abbrev s_Needed___init__ : Stmt := inClass (top 15) 0
abbrev s_is_number : Stmt := top 23
abbrev s_rest : Stmt := top 24
abbrev s_need_user : Stmt := top 25
abbrev s_need_deal : Stmt := top 26
abbrev s_place_of : Stmt := top 27
abbrev s_is_row : Stmt := top 28
abbrev s_parts_of : Stmt := top 29
abbrev s_is_condition : Stmt := top 30
abbrev s_fits : Stmt := top 31
abbrev s_is_rule : Stmt := top 32
abbrev s_are_rules : Stmt := top 33
abbrev s_need_rules : Stmt := top 34
abbrev s_share_of : Stmt := top 35
abbrev s_lets : Stmt := top 36
abbrev s_is_name : Stmt := top 40
abbrev s_need_name : Stmt := top 41
abbrev s_Board___init__ : Stmt := inClass (top 42) 0
abbrev s_Board___len__ : Stmt := inClass (top 42) 1
abbrev s_Board___eq__ : Stmt := inClass (top 42) 2
abbrev s_Board___str__ : Stmt := inClass (top 42) 3
abbrev s_Board_becomes : Stmt := inClass (top 42) 4
abbrev s_Board_gets : Stmt := inClass (top 42) 5
abbrev s_Board_need_switch : Stmt := inClass (top 42) 6
abbrev s_Board_put : Stmt := inClass (top 42) 7
abbrev s_Board_rule : Stmt := inClass (top 42) 8
abbrev s_Board_reach : Stmt := inClass (top 42) 9
abbrev s_Board_need : Stmt := inClass (top 42) 10
abbrev s_Board_dark : Stmt := inClass (top 42) 11
abbrev s_Board_drop : Stmt := inClass (top 42) 12
abbrev s_Board_take_back : Stmt := inClass (top 42) 13
abbrev s_Board_names : Stmt := inClass (top 42) 14
abbrev s_Board_switch : Stmt := inClass (top 42) 15
abbrev s_Board_is_open : Stmt := inClass (top 42) 16
abbrev s_Board_has : Stmt := inClass (top 42) 17
abbrev s_Board_why : Stmt := inClass (top 42) 18
abbrev s_written : Stmt := top 46
abbrev s_saved : Stmt := top 47
abbrev s_need : Stmt := top 48
abbrev s_read_word : Stmt := top 49
abbrev s_read : Stmt := top 50
abbrev s_woken : Stmt := top 51
abbrev s__law_cell : Stmt := top 53
abbrev s__law_drawn : Stmt := top 54
abbrev s__law_roll : Stmt := top 55
abbrev s__law_rounds : Stmt := top 56
abbrev s__law_word : Stmt := top 57
abbrev s__law_told : Stmt := top 58
abbrev s__law_deal : Stmt := top 59
abbrev s__law_user : Stmt := top 60
abbrev s__law_row : Stmt := top 61
abbrev s__law_condition : Stmt := top 62
abbrev s__law_holds : Stmt := top 63
abbrev s__law_rules : Stmt := top 64
abbrev s__law_share : Stmt := top 65
abbrev s__law_let : Stmt := top 66
abbrev s__law_has : Stmt := top 67
abbrev s__law_reach : Stmt := top 68
abbrev s__law_name : Stmt := top 69
abbrev s__law_deed : Stmt := top 70
abbrev s__law_due : Stmt := top 71
abbrev s__law_do : Stmt := top 72
abbrev s__law_like : Stmt := top 73
abbrev s__law_board : Stmt := top 74
abbrev s_law : Stmt := top 75
theorem sc__wall : FnScope ["k"] ["k"] (defScope s__wall) := ⟨rfl, rfl, rfl, by decide +kernel, rfl, by decide +kernel, by decide +kernel⟩
theorem sc_Needed___init__ : FnScope ["self", "by"] ["self", "by"] (defScope s_Needed___init__) := ⟨rfl, rfl, rfl, by decide +kernel, rfl, by decide +kernel, by decide +kernel⟩
theorem sc_is_number : FnScope ["thing", "low", "high"] ["thing", "low", "high"] (defScope s_is_number) := ⟨rfl, rfl, rfl, by decide +kernel, rfl, by decide +kernel, by decide +kernel⟩
theorem sc_rest : FnScope ["number", "by"] ["number", "by"] (defScope s_rest) := ⟨rfl, rfl, rfl, by decide +kernel, rfl, by decide +kernel, by decide +kernel⟩
theorem sc_need_user : FnScope ["thing"] ["thing"] (defScope s_need_user) := ⟨rfl, rfl, rfl, by decide +kernel, rfl, by decide +kernel, by decide +kernel⟩
theorem sc_need_deal : FnScope ["thing"] ["thing"] (defScope s_need_deal) := ⟨rfl, rfl, rfl, by decide +kernel, rfl, by decide +kernel, by decide +kernel⟩
theorem sc_place_of : FnScope ["number", "deal"] ["number", "deal"] (defScope s_place_of) := ⟨rfl, rfl, rfl, by decide +kernel, rfl, by decide +kernel, by decide +kernel⟩
theorem sc_is_row : FnScope ["thing", "most", "one", "other"] ["thing", "most"] (defScope s_is_row) := ⟨rfl, rfl, rfl, by decide +kernel, rfl, by decide +kernel, by decide +kernel⟩
theorem sc_parts_of : FnScope ["thing", "deep", "good", "part", "rows"] ["thing", "deep"] (defScope s_parts_of) := ⟨rfl, rfl, rfl, by decide +kernel, rfl, by decide +kernel, by decide +kernel⟩
theorem sc_is_condition : FnScope ["thing"] ["thing"] (defScope s_is_condition) := ⟨rfl, rfl, rfl, by decide +kernel, rfl, by decide +kernel, by decide +kernel⟩
theorem sc_fits : FnScope ["condition", "land", "plan", "part", "rows"] ["condition", "land", "plan"] (defScope s_fits) := ⟨rfl, rfl, rfl, by decide +kernel, rfl, by decide +kernel, by decide +kernel⟩
theorem sc_is_rule : FnScope ["thing"] ["thing"] (defScope s_is_rule) := ⟨rfl, rfl, rfl, by decide +kernel, rfl, by decide +kernel, by decide +kernel⟩
theorem sc_are_rules : FnScope ["thing", "one"] ["thing"] (defScope s_are_rules) := ⟨rfl, rfl, rfl, by decide +kernel, rfl, by decide +kernel, by decide +kernel⟩
theorem sc_need_rules : FnScope ["thing"] ["thing"] (defScope s_need_rules) := ⟨rfl, rfl, rfl, by decide +kernel, rfl, by decide +kernel, by decide +kernel⟩
theorem sc_share_of : FnScope ["rules", "land", "plan", "condition", "many"] ["rules", "land", "plan"] (defScope s_share_of) := ⟨rfl, rfl, rfl, by decide +kernel, rfl, by decide +kernel, by decide +kernel⟩
theorem sc_lets : FnScope ["rules", "deal", "user"] ["rules", "deal", "user"] (defScope s_lets) := ⟨rfl, rfl, rfl, by decide +kernel, rfl, by decide +kernel, by decide +kernel⟩
theorem sc_is_name : FnScope ["thing", "sign"] ["thing"] (defScope s_is_name) := ⟨rfl, rfl, rfl, by decide +kernel, rfl, by decide +kernel, by decide +kernel⟩
theorem sc_need_name : FnScope ["thing"] ["thing"] (defScope s_need_name) := ⟨rfl, rfl, rfl, by decide +kernel, rfl, by decide +kernel, by decide +kernel⟩
theorem sc_Board___init__ : FnScope ["self"] ["self"] (defScope s_Board___init__) := ⟨rfl, rfl, rfl, by decide +kernel, rfl, by decide +kernel, by decide +kernel⟩
theorem sc_Board___len__ : FnScope ["self"] ["self"] (defScope s_Board___len__) := ⟨rfl, rfl, rfl, by decide +kernel, rfl, by decide +kernel, by decide +kernel⟩
theorem sc_Board___eq__ : FnScope ["self", "other"] ["self", "other"] (defScope s_Board___eq__) := ⟨rfl, rfl, rfl, by decide +kernel, rfl, by decide +kernel, by decide +kernel⟩
theorem sc_Board___str__ : FnScope ["self"] ["self"] (defScope s_Board___str__) := ⟨rfl, rfl, rfl, by decide +kernel, rfl, by decide +kernel, by decide +kernel⟩
theorem sc_Board_becomes : FnScope ["self", "rows"] ["self", "rows"] (defScope s_Board_becomes) := ⟨rfl, rfl, rfl, by decide +kernel, rfl, by decide +kernel, by decide +kernel⟩
theorem sc_Board_gets : FnScope ["self", "name", "row", "found"] ["self", "name", "row"] (defScope s_Board_gets) := ⟨rfl, rfl, rfl, by decide +kernel, rfl, by decide +kernel, by decide +kernel⟩
theorem sc_Board_need_switch : FnScope ["self", "name"] ["self", "name"] (defScope s_Board_need_switch) := ⟨rfl, rfl, rfl, by decide +kernel, rfl, by decide +kernel, by decide +kernel⟩
theorem sc_Board_put : FnScope ["self", "name", "deal", "rules"] ["self", "name", "deal", "rules"] (defScope s_Board_put) := ⟨rfl, rfl, rfl, by decide +kernel, rfl, by decide +kernel, by decide +kernel⟩
theorem sc_Board_rule : FnScope ["self", "name", "rules", "deal", "elder", "needs", "is_dark"] ["self", "name", "rules"] (defScope s_Board_rule) := ⟨rfl, rfl, rfl, by decide +kernel, rfl, by decide +kernel, by decide +kernel⟩
theorem sc_Board_reach : FnScope ["self", "names", "found", "todo", "name"] ["self", "names"] (defScope s_Board_reach) := ⟨rfl, rfl, rfl, by decide +kernel, rfl, by decide +kernel, by decide +kernel⟩
theorem sc_Board_need : FnScope ["self", "name", "needs", "other", "deal", "rules", "elder", "is_dark"] ["self", "name", "needs"] (defScope s_Board_need) := ⟨rfl, rfl, rfl, by decide +kernel, rfl, by decide +kernel, by decide +kernel⟩
theorem sc_Board_dark : FnScope ["self", "name", "is_dark", "deal", "rules", "needs", "elder"] ["self", "name", "is_dark"] (defScope s_Board_dark) := ⟨rfl, rfl, rfl, by decide +kernel, rfl, by decide +kernel, by decide +kernel⟩
theorem sc_Board_drop : FnScope ["self", "name", "other", "found"] ["self", "name"] (defScope s_Board_drop) := ⟨rfl, rfl, rfl, by decide +kernel, rfl, by decide +kernel, by decide +kernel⟩
theorem sc_Board_take_back : FnScope ["self"] ["self"] (defScope s_Board_take_back) := ⟨rfl, rfl, rfl, by decide +kernel, rfl, by decide +kernel, by decide +kernel⟩
theorem sc_Board_names : FnScope ["self"] ["self"] (defScope s_Board_names) := ⟨rfl, rfl, rfl, by decide +kernel, rfl, by decide +kernel, by decide +kernel⟩
theorem sc_Board_switch : FnScope ["self", "name"] ["self", "name"] (defScope s_Board_switch) := ⟨rfl, rfl, rfl, by decide +kernel, rfl, by decide +kernel, by decide +kernel⟩
theorem sc_Board_is_open : FnScope ["self", "name", "user", "deal", "rules", "needs", "is_dark", "other"] ["self", "name", "user"] (defScope s_Board_is_open) := ⟨rfl, rfl, rfl, by decide +kernel, rfl, by decide +kernel, by decide +kernel⟩
theorem sc_Board_has : FnScope ["self", "name", "user"] ["self", "name", "user"] (defScope s_Board_has) := ⟨rfl, rfl, rfl, by decide +kernel, rfl, by decide +kernel, by decide +kernel⟩
theorem sc_Board_why : FnScope ["self", "name", "user"] ["self", "name", "user"] (defScope s_Board_why) := ⟨rfl, rfl, rfl, by decide +kernel, rfl, by decide +kernel, by decide +kernel⟩
theorem sc_written : FnScope ["thing", "one"] ["thing"] (defScope s_written) := ⟨rfl, rfl, rfl, by decide +kernel, rfl, by decide +kernel, by decide +kernel⟩
theorem sc_saved : FnScope ["board", "name"] ["board"] (defScope s_saved) := ⟨rfl, rfl, rfl, by decide +kernel, rfl, by decide +kernel, by decide +kernel⟩
theorem sc_need : FnScope ["good"] ["good"] (defScope s_need) := ⟨rfl, rfl, rfl, by decide +kernel, rfl, by decide +kernel, by decide +kernel⟩
theorem sc_read_word : FnScope ["word", "sign"] ["word"] (defScope s_read_word) := ⟨rfl, rfl, rfl, by decide +kernel, rfl, by decide +kernel, by decide +kernel⟩
theorem sc_read : FnScope ["text", "rows", "word", "row"] ["text"] (defScope s_read) := ⟨rfl, rfl, rfl, by decide +kernel, rfl, by decide +kernel, by decide +kernel⟩
theorem sc_woken : FnScope ["text", "found", "needs", "row", "name", "sign", "tail", "parts", "some", "is_dark"] ["text"] (defScope s_woken) := ⟨rfl, rfl, rfl, by decide +kernel, rfl, by decide +kernel, by decide +kernel⟩
theorem sc__law_cell : FnScope ["script", "k"] ["script", "k"] (defScope s__law_cell) := ⟨rfl, rfl, rfl, by decide +kernel, rfl, by decide +kernel, by decide +kernel⟩
theorem sc__law_drawn : FnScope ["cell", "k", "more"] ["cell", "k"] (defScope s__law_drawn) := ⟨rfl, rfl, rfl, by decide +kernel, rfl, by decide +kernel, by decide +kernel⟩
theorem sc__law_roll : FnScope ["dice", "many", "told"] ["dice", "many"] (defScope s__law_roll) := ⟨rfl, rfl, rfl, by decide +kernel, rfl, by decide +kernel, by decide +kernel⟩
theorem sc__law_rounds : FnScope ["script", "most", "k"] ["script", "most"] (defScope s__law_rounds) := ⟨rfl, rfl, rfl, by decide +kernel, rfl, by decide +kernel, by decide +kernel⟩
theorem sc__law_word : FnScope ["e", "flags", "words", "flag"] ["e"] (defScope s__law_word) := ⟨rfl, rfl, rfl, by decide +kernel, rfl, by decide +kernel, by decide +kernel⟩
theorem sc__law_told : FnScope ["deed", "e"] ["deed"] (defScope s__law_told) := ⟨rfl, rfl, rfl, by decide +kernel, rfl, by decide +kernel, by decide +kernel⟩
theorem sc__law_deal : FnScope ["dice"] ["dice"] (defScope s__law_deal) := ⟨rfl, rfl, rfl, by decide +kernel, rfl, by decide +kernel, by decide +kernel⟩
theorem sc__law_user : FnScope ["dice", "number"] ["dice"] (defScope s__law_user) := ⟨rfl, rfl, rfl, by decide +kernel, rfl, by decide +kernel, by decide +kernel⟩
theorem sc__law_row : FnScope ["dice", "most", "at", "found"] ["dice", "most"] (defScope s__law_row) := ⟨rfl, rfl, rfl, by decide +kernel, rfl, by decide +kernel, by decide +kernel⟩
theorem sc__law_condition : FnScope ["dice", "deep", "way", "word", "parts", "turn"] ["dice", "deep"] (defScope s__law_condition) := ⟨rfl, rfl, rfl, by decide +kernel, rfl, by decide +kernel, by decide +kernel⟩
theorem sc__law_holds : FnScope ["condition", "land", "plan", "part"] ["condition", "land", "plan"] (defScope s__law_holds) := ⟨rfl, rfl, rfl, by decide +kernel, rfl, by decide +kernel, by decide +kernel⟩
theorem sc__law_rules : FnScope ["dice", "deep", "found", "turn", "many"] ["dice", "deep"] (defScope s__law_rules) := ⟨rfl, rfl, rfl, by decide +kernel, rfl, by decide +kernel, by decide +kernel⟩
theorem sc__law_share : FnScope ["rules", "land", "plan", "condition", "many"] ["rules", "land", "plan"] (defScope s__law_share) := ⟨rfl, rfl, rfl, by decide +kernel, rfl, by decide +kernel, by decide +kernel⟩
theorem sc__law_let : FnScope ["rules", "deal", "user"] ["rules", "deal", "user"] (defScope s__law_let) := ⟨rfl, rfl, rfl, by decide +kernel, rfl, by decide +kernel, by decide +kernel⟩
theorem sc__law_has : FnScope ["table", "name", "user", "deal", "rules", "needs", "dim", "other"] ["table", "name", "user"] (defScope s__law_has) := ⟨rfl, rfl, rfl, by decide +kernel, rfl, by decide +kernel, by decide +kernel⟩
theorem sc__law_reach : FnScope ["table", "names", "found", "todo", "name"] ["table", "names"] (defScope s__law_reach) := ⟨rfl, rfl, rfl, by decide +kernel, rfl, by decide +kernel, by decide +kernel⟩
theorem sc__law_name : FnScope ["dice"] ["dice"] (defScope s__law_name) := ⟨rfl, rfl, rfl, by decide +kernel, rfl, by decide +kernel, by decide +kernel⟩
theorem sc__law_deed : FnScope ["dice", "table", "way", "name", "other"] ["dice", "table"] (defScope s__law_deed) := ⟨rfl, rfl, rfl, by decide +kernel, rfl, by decide +kernel, by decide +kernel⟩
theorem sc__law_due : FnScope ["table", "deed", "name", "deal", "rules", "needs", "dim", "other", "some"] ["table", "deed"] (defScope s__law_due) := ⟨rfl, rfl, rfl, by decide +kernel, rfl, by decide +kernel, by decide +kernel⟩
theorem sc__law_do : FnScope ["board", "deed"] ["board", "deed"] (defScope s__law_do) := ⟨rfl, rfl, rfl, by decide +kernel, rfl, by decide +kernel, by decide +kernel⟩
theorem sc__law_like : FnScope ["board", "table", "users", "name", "user", "answer"] ["board", "table", "users"] (defScope s__law_like) := ⟨rfl, rfl, rfl, by decide +kernel, rfl, by decide +kernel, by decide +kernel⟩
theorem sc__law_board : FnScope ["dice", "most", "board", "table", "good", "turn", "deed"] ["dice", "most"] (defScope s__law_board) := ⟨rfl, rfl, rfl, by decide +kernel, rfl, by decide +kernel, by decide +kernel⟩
theorem sc_law : FnScope ["script", "dice", "board", "table", "good", "turn", "text", "users", "other", "own", "deed"] ["script"] (defScope s_law) := ⟨rfl, rfl, rfl, by decide +kernel, rfl, by decide +kernel, by decide +kernel⟩
def d__wall : He.DefD := ⟨("_wall", none), "_wall", "_wall", defArgs s__wall, defBody s__wall, defScope s__wall, [], []⟩
def d_Needed___init__ : He.DefD := ⟨("Needed", some "__init__"), "__init__", "Needed.__init__", defArgs s_Needed___init__, defBody s_Needed___init__, defScope s_Needed___init__, [], []⟩
def d_is_number : He.DefD := ⟨("is_number", none), "is_number", "is_number", defArgs s_is_number, defBody s_is_number, defScope s_is_number, [], []⟩
def d_rest : He.DefD := ⟨("rest", none), "rest", "rest", defArgs s_rest, defBody s_rest, defScope s_rest, [], []⟩
def d_need_user : He.DefD := ⟨("need_user", none), "need_user", "need_user", defArgs s_need_user, defBody s_need_user, defScope s_need_user, [], []⟩
def d_need_deal : He.DefD := ⟨("need_deal", none), "need_deal", "need_deal", defArgs s_need_deal, defBody s_need_deal, defScope s_need_deal, [], []⟩
def d_place_of : He.DefD := ⟨("place_of", none), "place_of", "place_of", defArgs s_place_of, defBody s_place_of, defScope s_place_of, [], []⟩
def d_is_row : He.DefD := ⟨("is_row", none), "is_row", "is_row", defArgs s_is_row, defBody s_is_row, defScope s_is_row, [], []⟩
def d_parts_of : He.DefD := ⟨("parts_of", none), "parts_of", "parts_of", defArgs s_parts_of, defBody s_parts_of, defScope s_parts_of, [], []⟩
def d_is_condition : He.DefD := ⟨("is_condition", none), "is_condition", "is_condition", defArgs s_is_condition, defBody s_is_condition, defScope s_is_condition, [], []⟩
def d_fits : He.DefD := ⟨("fits", none), "fits", "fits", defArgs s_fits, defBody s_fits, defScope s_fits, [], []⟩
def d_is_rule : He.DefD := ⟨("is_rule", none), "is_rule", "is_rule", defArgs s_is_rule, defBody s_is_rule, defScope s_is_rule, [], []⟩
def d_are_rules : He.DefD := ⟨("are_rules", none), "are_rules", "are_rules", defArgs s_are_rules, defBody s_are_rules, defScope s_are_rules, [], []⟩
def d_need_rules : He.DefD := ⟨("need_rules", none), "need_rules", "need_rules", defArgs s_need_rules, defBody s_need_rules, defScope s_need_rules, [], []⟩
def d_share_of : He.DefD := ⟨("share_of", none), "share_of", "share_of", defArgs s_share_of, defBody s_share_of, defScope s_share_of, [], []⟩
def d_lets : He.DefD := ⟨("lets", none), "lets", "lets", defArgs s_lets, defBody s_lets, defScope s_lets, [], []⟩
def d_is_name : He.DefD := ⟨("is_name", none), "is_name", "is_name", defArgs s_is_name, defBody s_is_name, defScope s_is_name, [], []⟩
def d_need_name : He.DefD := ⟨("need_name", none), "need_name", "need_name", defArgs s_need_name, defBody s_need_name, defScope s_need_name, [], []⟩
def d_Board___init__ : He.DefD := ⟨("Board", some "__init__"), "__init__", "Board.__init__", defArgs s_Board___init__, defBody s_Board___init__, defScope s_Board___init__, [], []⟩
def d_Board___len__ : He.DefD := ⟨("Board", some "__len__"), "__len__", "Board.__len__", defArgs s_Board___len__, defBody s_Board___len__, defScope s_Board___len__, [], []⟩
def d_Board___eq__ : He.DefD := ⟨("Board", some "__eq__"), "__eq__", "Board.__eq__", defArgs s_Board___eq__, defBody s_Board___eq__, defScope s_Board___eq__, [], []⟩
def d_Board___str__ : He.DefD := ⟨("Board", some "__str__"), "__str__", "Board.__str__", defArgs s_Board___str__, defBody s_Board___str__, defScope s_Board___str__, [], []⟩
def d_Board_becomes : He.DefD := ⟨("Board", some "becomes"), "becomes", "Board.becomes", defArgs s_Board_becomes, defBody s_Board_becomes, defScope s_Board_becomes, [], []⟩
def d_Board_gets : He.DefD := ⟨("Board", some "gets"), "gets", "Board.gets", defArgs s_Board_gets, defBody s_Board_gets, defScope s_Board_gets, [], []⟩
def d_Board_need_switch : He.DefD := ⟨("Board", some "need_switch"), "need_switch", "Board.need_switch", defArgs s_Board_need_switch, defBody s_Board_need_switch, defScope s_Board_need_switch, [], []⟩
def d_Board_put : He.DefD := ⟨("Board", some "put"), "put", "Board.put", defArgs s_Board_put, defBody s_Board_put, defScope s_Board_put, [], []⟩
def d_Board_rule : He.DefD := ⟨("Board", some "rule"), "rule", "Board.rule", defArgs s_Board_rule, defBody s_Board_rule, defScope s_Board_rule, [], []⟩
def d_Board_reach : He.DefD := ⟨("Board", some "reach"), "reach", "Board.reach", defArgs s_Board_reach, defBody s_Board_reach, defScope s_Board_reach, [], []⟩
def d_Board_need : He.DefD := ⟨("Board", some "need"), "need", "Board.need", defArgs s_Board_need, defBody s_Board_need, defScope s_Board_need, [], []⟩
def d_Board_dark : He.DefD := ⟨("Board", some "dark"), "dark", "Board.dark", defArgs s_Board_dark, defBody s_Board_dark, defScope s_Board_dark, [.bl true], []⟩
def d_Board_drop : He.DefD := ⟨("Board", some "drop"), "drop", "Board.drop", defArgs s_Board_drop, defBody s_Board_drop, defScope s_Board_drop, [], []⟩
def d_Board_take_back : He.DefD := ⟨("Board", some "take_back"), "take_back", "Board.take_back", defArgs s_Board_take_back, defBody s_Board_take_back, defScope s_Board_take_back, [], []⟩
def d_Board_names : He.DefD := ⟨("Board", some "names"), "names", "Board.names", defArgs s_Board_names, defBody s_Board_names, defScope s_Board_names, [], []⟩
def d_Board_switch : He.DefD := ⟨("Board", some "switch"), "switch", "Board.switch", defArgs s_Board_switch, defBody s_Board_switch, defScope s_Board_switch, [], []⟩
def d_Board_is_open : He.DefD := ⟨("Board", some "is_open"), "is_open", "Board.is_open", defArgs s_Board_is_open, defBody s_Board_is_open, defScope s_Board_is_open, [], []⟩
def d_Board_has : He.DefD := ⟨("Board", some "has"), "has", "Board.has", defArgs s_Board_has, defBody s_Board_has, defScope s_Board_has, [], []⟩
def d_Board_why : He.DefD := ⟨("Board", some "why"), "why", "Board.why", defArgs s_Board_why, defBody s_Board_why, defScope s_Board_why, [], []⟩
def d_written : He.DefD := ⟨("written", none), "written", "written", defArgs s_written, defBody s_written, defScope s_written, [], []⟩
def d_saved : He.DefD := ⟨("saved", none), "saved", "saved", defArgs s_saved, defBody s_saved, defScope s_saved, [], []⟩
def d_need : He.DefD := ⟨("need", none), "need", "need", defArgs s_need, defBody s_need, defScope s_need, [], []⟩
def d_read_word : He.DefD := ⟨("read_word", none), "read_word", "read_word", defArgs s_read_word, defBody s_read_word, defScope s_read_word, [], []⟩
def d_read : He.DefD := ⟨("read", none), "read", "read", defArgs s_read, defBody s_read, defScope s_read, [], []⟩
def d_woken : He.DefD := ⟨("woken", none), "woken", "woken", defArgs s_woken, defBody s_woken, defScope s_woken, [], []⟩
def d__law_cell : He.DefD := ⟨("_law_cell", none), "_law_cell", "_law_cell", defArgs s__law_cell, defBody s__law_cell, defScope s__law_cell, [], []⟩
def d__law_drawn : He.DefD := ⟨("_law_drawn", none), "_law_drawn", "_law_drawn", defArgs s__law_drawn, defBody s__law_drawn, defScope s__law_drawn, [], []⟩
def d__law_roll : He.DefD := ⟨("_law_roll", none), "_law_roll", "_law_roll", defArgs s__law_roll, defBody s__law_roll, defScope s__law_roll, [], []⟩
def d__law_rounds : He.DefD := ⟨("_law_rounds", none), "_law_rounds", "_law_rounds", defArgs s__law_rounds, defBody s__law_rounds, defScope s__law_rounds, [], []⟩
def d__law_word : He.DefD := ⟨("_law_word", none), "_law_word", "_law_word", defArgs s__law_word, defBody s__law_word, defScope s__law_word, [], []⟩
def d__law_told : He.DefD := ⟨("_law_told", none), "_law_told", "_law_told", defArgs s__law_told, defBody s__law_told, defScope s__law_told, [], []⟩
def d__law_deal : He.DefD := ⟨("_law_deal", none), "_law_deal", "_law_deal", defArgs s__law_deal, defBody s__law_deal, defScope s__law_deal, [], []⟩
def d__law_user : He.DefD := ⟨("_law_user", none), "_law_user", "_law_user", defArgs s__law_user, defBody s__law_user, defScope s__law_user, [], []⟩
def d__law_row : He.DefD := ⟨("_law_row", none), "_law_row", "_law_row", defArgs s__law_row, defBody s__law_row, defScope s__law_row, [], []⟩
def d__law_condition : He.DefD := ⟨("_law_condition", none), "_law_condition", "_law_condition", defArgs s__law_condition, defBody s__law_condition, defScope s__law_condition, [], []⟩
def d__law_holds : He.DefD := ⟨("_law_holds", none), "_law_holds", "_law_holds", defArgs s__law_holds, defBody s__law_holds, defScope s__law_holds, [], []⟩
def d__law_rules : He.DefD := ⟨("_law_rules", none), "_law_rules", "_law_rules", defArgs s__law_rules, defBody s__law_rules, defScope s__law_rules, [], []⟩
def d__law_share : He.DefD := ⟨("_law_share", none), "_law_share", "_law_share", defArgs s__law_share, defBody s__law_share, defScope s__law_share, [], []⟩
def d__law_let : He.DefD := ⟨("_law_let", none), "_law_let", "_law_let", defArgs s__law_let, defBody s__law_let, defScope s__law_let, [], []⟩
def d__law_has : He.DefD := ⟨("_law_has", none), "_law_has", "_law_has", defArgs s__law_has, defBody s__law_has, defScope s__law_has, [], []⟩
def d__law_reach : He.DefD := ⟨("_law_reach", none), "_law_reach", "_law_reach", defArgs s__law_reach, defBody s__law_reach, defScope s__law_reach, [], []⟩
def d__law_name : He.DefD := ⟨("_law_name", none), "_law_name", "_law_name", defArgs s__law_name, defBody s__law_name, defScope s__law_name, [], []⟩
def d__law_deed : He.DefD := ⟨("_law_deed", none), "_law_deed", "_law_deed", defArgs s__law_deed, defBody s__law_deed, defScope s__law_deed, [], []⟩
def d__law_due : He.DefD := ⟨("_law_due", none), "_law_due", "_law_due", defArgs s__law_due, defBody s__law_due, defScope s__law_due, [], []⟩
def d__law_do : He.DefD := ⟨("_law_do", none), "_law_do", "_law_do", defArgs s__law_do, defBody s__law_do, defScope s__law_do, [], []⟩
def d__law_like : He.DefD := ⟨("_law_like", none), "_law_like", "_law_like", defArgs s__law_like, defBody s__law_like, defScope s__law_like, [], []⟩
def d__law_board : He.DefD := ⟨("_law_board", none), "_law_board", "_law_board", defArgs s__law_board, defBody s__law_board, defScope s__law_board, [], []⟩
def d_law : He.DefD := ⟨("law", none), "law", "law", defArgs s_law, defBody s_law, defScope s_law, [], []⟩
def fnl : List He.DefD := [d__wall, d_Needed___init__, d_is_number, d_rest, d_need_user, d_need_deal, d_place_of, d_is_row, d_parts_of, d_is_condition, d_fits, d_is_rule, d_are_rules, d_need_rules, d_share_of, d_lets, d_is_name, d_need_name, d_Board___init__, d_Board___len__, d_Board___eq__, d_Board___str__, d_Board_becomes, d_Board_gets, d_Board_need_switch, d_Board_put, d_Board_rule, d_Board_reach, d_Board_need, d_Board_dark, d_Board_drop, d_Board_take_back, d_Board_names, d_Board_switch, d_Board_is_open, d_Board_has, d_Board_why, d_written, d_saved, d_need, d_read_word, d_read, d_woken, d__law_cell, d__law_drawn, d__law_roll, d__law_rounds, d__law_word, d__law_told, d__law_deal, d__law_user, d__law_row, d__law_condition, d__law_holds, d__law_rules, d__law_share, d__law_let, d__law_has, d__law_reach, d__law_name, d__law_deed, d__law_due, d__law_do, d__law_like, d__law_board, d_law]
def fal : List He.Fa := [.glo "_wall", .glo "is_number", .glo "rest", .glo "need_user", .glo "need_deal", .glo "place_of", .glo "is_row", .glo "parts_of", .glo "is_condition", .glo "fits", .glo "is_rule", .glo "are_rules", .glo "need_rules", .glo "share_of", .glo "lets", .glo "is_name", .glo "need_name", .glo "written", .glo "saved", .glo "need", .glo "read_word", .glo "read", .glo "woken", .glo "_law_cell", .glo "_law_drawn", .glo "_law_roll", .glo "_law_rounds", .glo "_law_word", .glo "_law_told", .glo "_law_deal", .glo "_law_user", .glo "_law_row", .glo "_law_condition", .glo "_law_holds", .glo "_law_rules", .glo "_law_share", .glo "_law_let", .glo "_law_has", .glo "_law_reach", .glo "_law_name", .glo "_law_deed", .glo "_law_due", .glo "_law_do", .glo "_law_like", .glo "_law_board", .glo "law", .glo "GateError", .exc "GateError", .glo "BadUser", .exc "BadUser", .glo "BadDeal", .exc "BadDeal", .glo "BadCondition", .exc "BadCondition", .glo "BadRules", .exc "BadRules", .glo "BadName", .exc "BadName", .glo "BadNumber", .exc "BadNumber", .glo "Known", .exc "Known", .glo "Ring", .exc "Ring", .glo "Full", .exc "Full", .glo "BadDay", .exc "BadDay", .glo "Nothing", .exc "Nothing", .glo "BadText", .exc "BadText", .glo "Needed", .glo "Board", .meth "Needed" "__init__", .cls "Board", .mkr "Board", .meth "Board" "__init__", .meth "Board" "__len__", .meth "Board" "__eq__", .meth "Board" "__str__", .meth "Board" "becomes", .meth "Board" "gets", .meth "Board" "need_switch", .meth "Board" "put", .meth "Board" "rule", .meth "Board" "reach", .meth "Board" "need", .meth "Board" "dark", .meth "Board" "drop", .meth "Board" "take_back", .meth "Board" "names", .meth "Board" "switch", .meth "Board" "is_open", .meth "Board" "has", .meth "Board" "why", .noat "Board" "table", .noat "Board" "past", .free "ValueError", .free "all", .free "any", .free "bool", .free "dict", .free "int", .free "isinstance", .free "len", .free "list", .free "max", .free "min", .free "range", .free "set", .free "sorted", .free "str", .free "sum", .free "tuple", .free "zip", .int "GREATEST" 1000000000000, .int "LANDS" 6, .int "PLANS" 4, .int "PLACES" 100, .int "MOST_DEEP" 5, .int "MOST_PARTS" 40, .str "LETTERS" "abcdefghijklmnopqrstuvwxyz", .int "MOST" 12, .str "END" ".", .str "FIGURES" "0123456789"]
def tfl : List He.Defn := [("_law_do", none), ("law", none)]
abbrev tfS : List Str := ["_law_do", "law"]
def exl (K : PySem.W.Frag) : Bool := wordB K && (apartB K tfS && (needB K && neqB K "Board"))
structure Tx (K : PySem.W.Frag) (mg : Str → Option Value) : Prop where
  W : WordOk K
  ND : NeedC K
  NQ : NeqC K "Board"
  G__wall : mg "_wall" = some (.ref (He.ga K "_wall"))
  G_is_number : mg "is_number" = some (.ref (He.ga K "is_number"))
  G_rest : mg "rest" = some (.ref (He.ga K "rest"))
  G_need_user : mg "need_user" = some (.ref (He.ga K "need_user"))
  G_need_deal : mg "need_deal" = some (.ref (He.ga K "need_deal"))
  G_place_of : mg "place_of" = some (.ref (He.ga K "place_of"))
  G_is_row : mg "is_row" = some (.ref (He.ga K "is_row"))
  G_parts_of : mg "parts_of" = some (.ref (He.ga K "parts_of"))
  G_is_condition : mg "is_condition" = some (.ref (He.ga K "is_condition"))
  G_fits : mg "fits" = some (.ref (He.ga K "fits"))
  G_is_rule : mg "is_rule" = some (.ref (He.ga K "is_rule"))
  G_are_rules : mg "are_rules" = some (.ref (He.ga K "are_rules"))
  G_need_rules : mg "need_rules" = some (.ref (He.ga K "need_rules"))
  G_share_of : mg "share_of" = some (.ref (He.ga K "share_of"))
  G_lets : mg "lets" = some (.ref (He.ga K "lets"))
  G_is_name : mg "is_name" = some (.ref (He.ga K "is_name"))
  G_need_name : mg "need_name" = some (.ref (He.ga K "need_name"))
  G_written : mg "written" = some (.ref (He.ga K "written"))
  G_saved : mg "saved" = some (.ref (He.ga K "saved"))
  G_need : mg "need" = some (.ref (He.ga K "need"))
  G_read_word : mg "read_word" = some (.ref (He.ga K "read_word"))
  G_read : mg "read" = some (.ref (He.ga K "read"))
  G_woken : mg "woken" = some (.ref (He.ga K "woken"))
  G__law_cell : mg "_law_cell" = some (.ref (He.ga K "_law_cell"))
  G__law_drawn : mg "_law_drawn" = some (.ref (He.ga K "_law_drawn"))
  G__law_roll : mg "_law_roll" = some (.ref (He.ga K "_law_roll"))
  G__law_rounds : mg "_law_rounds" = some (.ref (He.ga K "_law_rounds"))
  G__law_word : mg "_law_word" = some (.ref (He.ga K "_law_word"))
  G__law_told : mg "_law_told" = some (.ref (He.ga K "_law_told"))
  G__law_deal : mg "_law_deal" = some (.ref (He.ga K "_law_deal"))
  G__law_user : mg "_law_user" = some (.ref (He.ga K "_law_user"))
  G__law_row : mg "_law_row" = some (.ref (He.ga K "_law_row"))
  G__law_condition : mg "_law_condition" = some (.ref (He.ga K "_law_condition"))
  G__law_holds : mg "_law_holds" = some (.ref (He.ga K "_law_holds"))
  G__law_rules : mg "_law_rules" = some (.ref (He.ga K "_law_rules"))
  G__law_share : mg "_law_share" = some (.ref (He.ga K "_law_share"))
  G__law_let : mg "_law_let" = some (.ref (He.ga K "_law_let"))
  G__law_has : mg "_law_has" = some (.ref (He.ga K "_law_has"))
  G__law_reach : mg "_law_reach" = some (.ref (He.ga K "_law_reach"))
  G__law_name : mg "_law_name" = some (.ref (He.ga K "_law_name"))
  G__law_deed : mg "_law_deed" = some (.ref (He.ga K "_law_deed"))
  G__law_due : mg "_law_due" = some (.ref (He.ga K "_law_due"))
  G__law_do : mg "_law_do" = some (.ref (He.ga K "_law_do"))
  G__law_like : mg "_law_like" = some (.ref (He.ga K "_law_like"))
  G__law_board : mg "_law_board" = some (.ref (He.ga K "_law_board"))
  G_law : mg "law" = some (.ref (He.ga K "law"))
  G_GateError : mg "GateError" = some (.ref (He.ga K "GateError"))
  X_GateError : Exn K mg "GateError"
  G_BadUser : mg "BadUser" = some (.ref (He.ga K "BadUser"))
  X_BadUser : Exn K mg "BadUser"
  G_BadDeal : mg "BadDeal" = some (.ref (He.ga K "BadDeal"))
  X_BadDeal : Exn K mg "BadDeal"
  G_BadCondition : mg "BadCondition" = some (.ref (He.ga K "BadCondition"))
  X_BadCondition : Exn K mg "BadCondition"
  G_BadRules : mg "BadRules" = some (.ref (He.ga K "BadRules"))
  X_BadRules : Exn K mg "BadRules"
  G_BadName : mg "BadName" = some (.ref (He.ga K "BadName"))
  X_BadName : Exn K mg "BadName"
  G_BadNumber : mg "BadNumber" = some (.ref (He.ga K "BadNumber"))
  X_BadNumber : Exn K mg "BadNumber"
  G_Known : mg "Known" = some (.ref (He.ga K "Known"))
  X_Known : Exn K mg "Known"
  G_Ring : mg "Ring" = some (.ref (He.ga K "Ring"))
  X_Ring : Exn K mg "Ring"
  G_Full : mg "Full" = some (.ref (He.ga K "Full"))
  X_Full : Exn K mg "Full"
  G_BadDay : mg "BadDay" = some (.ref (He.ga K "BadDay"))
  X_BadDay : Exn K mg "BadDay"
  G_Nothing : mg "Nothing" = some (.ref (He.ga K "Nothing"))
  X_Nothing : Exn K mg "Nothing"
  G_BadText : mg "BadText" = some (.ref (He.ga K "BadText"))
  X_BadText : Exn K mg "BadText"
  G_Needed : mg "Needed" = some (.ref (He.ga K "Needed"))
  G_Board : mg "Board" = some (.ref (He.ga K "Board"))
  M_Needed___init__ : Meth K (He.ga K "Needed") "__init__" (He.ma K (He.ga K "Needed") "__init__")
  C_Board : Cls K (He.ga K "Board")
  K_Board : Mk K (He.ga K "Board") (He.ma K (He.ga K "Board") "__init__")
  M_Board___init__ : Meth K (He.ga K "Board") "__init__" (He.ma K (He.ga K "Board") "__init__")
  M_Board___len__ : Meth K (He.ga K "Board") "__len__" (He.ma K (He.ga K "Board") "__len__")
  M_Board___eq__ : Meth K (He.ga K "Board") "__eq__" (He.ma K (He.ga K "Board") "__eq__")
  M_Board___str__ : Meth K (He.ga K "Board") "__str__" (He.ma K (He.ga K "Board") "__str__")
  M_Board_becomes : Meth K (He.ga K "Board") "becomes" (He.ma K (He.ga K "Board") "becomes")
  M_Board_gets : Meth K (He.ga K "Board") "gets" (He.ma K (He.ga K "Board") "gets")
  M_Board_need_switch : Meth K (He.ga K "Board") "need_switch" (He.ma K (He.ga K "Board") "need_switch")
  M_Board_put : Meth K (He.ga K "Board") "put" (He.ma K (He.ga K "Board") "put")
  M_Board_rule : Meth K (He.ga K "Board") "rule" (He.ma K (He.ga K "Board") "rule")
  M_Board_reach : Meth K (He.ga K "Board") "reach" (He.ma K (He.ga K "Board") "reach")
  M_Board_need : Meth K (He.ga K "Board") "need" (He.ma K (He.ga K "Board") "need")
  M_Board_dark : Meth K (He.ga K "Board") "dark" (He.ma K (He.ga K "Board") "dark")
  M_Board_drop : Meth K (He.ga K "Board") "drop" (He.ma K (He.ga K "Board") "drop")
  M_Board_take_back : Meth K (He.ga K "Board") "take_back" (He.ma K (He.ga K "Board") "take_back")
  M_Board_names : Meth K (He.ga K "Board") "names" (He.ma K (He.ga K "Board") "names")
  M_Board_switch : Meth K (He.ga K "Board") "switch" (He.ma K (He.ga K "Board") "switch")
  M_Board_is_open : Meth K (He.ga K "Board") "is_open" (He.ma K (He.ga K "Board") "is_open")
  M_Board_has : Meth K (He.ga K "Board") "has" (He.ma K (He.ga K "Board") "has")
  M_Board_why : Meth K (He.ga K "Board") "why" (He.ma K (He.ga K "Board") "why")
  N_Board_table : NoAttr K (He.ga K "Board") "table"
  N_Board_past : NoAttr K (He.ga K "Board") "past"
  Z_ValueError : mg "ValueError" = none
  Z_all : mg "all" = none
  Z_any : mg "any" = none
  Z_bool : mg "bool" = none
  Z_dict : mg "dict" = none
  Z_int : mg "int" = none
  Z_isinstance : mg "isinstance" = none
  Z_len : mg "len" = none
  Z_list : mg "list" = none
  Z_max : mg "max" = none
  Z_min : mg "min" = none
  Z_range : mg "range" = none
  Z_set : mg "set" = none
  Z_sorted : mg "sorted" = none
  Z_str : mg "str" = none
  Z_sum : mg "sum" = none
  Z_tuple : mg "tuple" = none
  Z_zip : mg "zip" = none
  I_GREATEST : ∃ t, mg "GREATEST" = some (.int 1000000000000 t)
  I_LANDS : ∃ t, mg "LANDS" = some (.int 6 t)
  I_PLANS : ∃ t, mg "PLANS" = some (.int 4 t)
  I_PLACES : ∃ t, mg "PLACES" = some (.int 100 t)
  I_MOST_DEEP : ∃ t, mg "MOST_DEEP" = some (.int 5 t)
  I_MOST_PARTS : ∃ t, mg "MOST_PARTS" = some (.int 40 t)
  S_LETTERS : ∃ t, mg "LETTERS" = some (.str "abcdefghijklmnopqrstuvwxyz" t)
  I_MOST : ∃ t, mg "MOST" = some (.int 12 t)
  S_END : ∃ t, mg "END" = some (.str "." t)
  S_FIGURES : ∃ t, mg "FIGURES" = some (.str "0123456789" t)
  F__wall : FnAt K "_wall" s__wall
  F_Needed___init__ : FnAtM K "Needed" "__init__" "Needed.__init__" s_Needed___init__
  F_is_number : FnAt K "is_number" s_is_number
  F_rest : FnAt K "rest" s_rest
  F_need_user : FnAt K "need_user" s_need_user
  F_need_deal : FnAt K "need_deal" s_need_deal
  F_place_of : FnAt K "place_of" s_place_of
  F_is_row : FnAt K "is_row" s_is_row
  F_parts_of : FnAt K "parts_of" s_parts_of
  F_is_condition : FnAt K "is_condition" s_is_condition
  F_fits : FnAt K "fits" s_fits
  F_is_rule : FnAt K "is_rule" s_is_rule
  F_are_rules : FnAt K "are_rules" s_are_rules
  F_need_rules : FnAt K "need_rules" s_need_rules
  F_share_of : FnAt K "share_of" s_share_of
  F_lets : FnAt K "lets" s_lets
  F_is_name : FnAt K "is_name" s_is_name
  F_need_name : FnAt K "need_name" s_need_name
  F_Board___init__ : FnAtM K "Board" "__init__" "Board.__init__" s_Board___init__
  F_Board___len__ : FnAtM K "Board" "__len__" "Board.__len__" s_Board___len__
  F_Board___eq__ : FnAtM K "Board" "__eq__" "Board.__eq__" s_Board___eq__
  F_Board___str__ : FnAtM K "Board" "__str__" "Board.__str__" s_Board___str__
  F_Board_becomes : FnAtM K "Board" "becomes" "Board.becomes" s_Board_becomes
  F_Board_gets : FnAtM K "Board" "gets" "Board.gets" s_Board_gets
  F_Board_need_switch : FnAtM K "Board" "need_switch" "Board.need_switch" s_Board_need_switch
  F_Board_put : FnAtM K "Board" "put" "Board.put" s_Board_put
  F_Board_rule : FnAtM K "Board" "rule" "Board.rule" s_Board_rule
  F_Board_reach : FnAtM K "Board" "reach" "Board.reach" s_Board_reach
  F_Board_need : FnAtM K "Board" "need" "Board.need" s_Board_need
  F_Board_dark : FnAtD K "Board" "dark" "Board.dark" s_Board_dark (.bl true)
  F_Board_drop : FnAtM K "Board" "drop" "Board.drop" s_Board_drop
  F_Board_take_back : FnAtM K "Board" "take_back" "Board.take_back" s_Board_take_back
  F_Board_names : FnAtM K "Board" "names" "Board.names" s_Board_names
  F_Board_switch : FnAtM K "Board" "switch" "Board.switch" s_Board_switch
  F_Board_is_open : FnAtM K "Board" "is_open" "Board.is_open" s_Board_is_open
  F_Board_has : FnAtM K "Board" "has" "Board.has" s_Board_has
  F_Board_why : FnAtM K "Board" "why" "Board.why" s_Board_why
  F_written : FnAt K "written" s_written
  F_saved : FnAt K "saved" s_saved
  F_need : FnAt K "need" s_need
  F_read_word : FnAt K "read_word" s_read_word
  F_read : FnAt K "read" s_read
  F_woken : FnAt K "woken" s_woken
  F__law_cell : FnAt K "_law_cell" s__law_cell
  F__law_drawn : FnAt K "_law_drawn" s__law_drawn
  F__law_roll : FnAt K "_law_roll" s__law_roll
  F__law_rounds : FnAt K "_law_rounds" s__law_rounds
  F__law_word : FnAt K "_law_word" s__law_word
  F__law_told : FnAt K "_law_told" s__law_told
  F__law_deal : FnAt K "_law_deal" s__law_deal
  F__law_user : FnAt K "_law_user" s__law_user
  F__law_row : FnAt K "_law_row" s__law_row
  F__law_condition : FnAt K "_law_condition" s__law_condition
  F__law_holds : FnAt K "_law_holds" s__law_holds
  F__law_rules : FnAt K "_law_rules" s__law_rules
  F__law_share : FnAt K "_law_share" s__law_share
  F__law_let : FnAt K "_law_let" s__law_let
  F__law_has : FnAt K "_law_has" s__law_has
  F__law_reach : FnAt K "_law_reach" s__law_reach
  F__law_name : FnAt K "_law_name" s__law_name
  F__law_deed : FnAt K "_law_deed" s__law_deed
  F__law_due : FnAt K "_law_due" s__law_due
  F__law_do : FnAt K "_law_do" s__law_do
  F__law_like : FnAt K "_law_like" s__law_like
  F__law_board : FnAt K "_law_board" s__law_board
  F_law : FnAt K "law" s_law
theorem tx_mk {K : PySem.W.Frag} {mg : Str → Option Value} {h : Heap} {w : World} (X : K.In h) (G : h.Ns mainGlobals mg) (c : He.SaysX fal fnl [] tfl exl w h K) : Tx K mg where
  W := wordB_ok (Bool.and_eq_true_iff.mp c.more).1
  ND := needB_ok (Bool.and_eq_true_iff.mp (Bool.and_eq_true_iff.mp (Bool.and_eq_true_iff.mp c.more).2).2).1
  NQ := neqB_ok (Bool.and_eq_true_iff.mp (Bool.and_eq_true_iff.mp (Bool.and_eq_true_iff.mp c.more).2).2).2
  G__wall := He.glo_ok X G (c.t.d.fact 0 (f := .glo "_wall") rfl)
  G_is_number := He.glo_ok X G (c.t.d.fact 1 (f := .glo "is_number") rfl)
  G_rest := He.glo_ok X G (c.t.d.fact 2 (f := .glo "rest") rfl)
  G_need_user := He.glo_ok X G (c.t.d.fact 3 (f := .glo "need_user") rfl)
  G_need_deal := He.glo_ok X G (c.t.d.fact 4 (f := .glo "need_deal") rfl)
  G_place_of := He.glo_ok X G (c.t.d.fact 5 (f := .glo "place_of") rfl)
  G_is_row := He.glo_ok X G (c.t.d.fact 6 (f := .glo "is_row") rfl)
  G_parts_of := He.glo_ok X G (c.t.d.fact 7 (f := .glo "parts_of") rfl)
  G_is_condition := He.glo_ok X G (c.t.d.fact 8 (f := .glo "is_condition") rfl)
  G_fits := He.glo_ok X G (c.t.d.fact 9 (f := .glo "fits") rfl)
  G_is_rule := He.glo_ok X G (c.t.d.fact 10 (f := .glo "is_rule") rfl)
  G_are_rules := He.glo_ok X G (c.t.d.fact 11 (f := .glo "are_rules") rfl)
  G_need_rules := He.glo_ok X G (c.t.d.fact 12 (f := .glo "need_rules") rfl)
  G_share_of := He.glo_ok X G (c.t.d.fact 13 (f := .glo "share_of") rfl)
  G_lets := He.glo_ok X G (c.t.d.fact 14 (f := .glo "lets") rfl)
  G_is_name := He.glo_ok X G (c.t.d.fact 15 (f := .glo "is_name") rfl)
  G_need_name := He.glo_ok X G (c.t.d.fact 16 (f := .glo "need_name") rfl)
  G_written := He.glo_ok X G (c.t.d.fact 17 (f := .glo "written") rfl)
  G_saved := He.glo_ok X G (c.t.d.fact 18 (f := .glo "saved") rfl)
  G_need := He.glo_ok X G (c.t.d.fact 19 (f := .glo "need") rfl)
  G_read_word := He.glo_ok X G (c.t.d.fact 20 (f := .glo "read_word") rfl)
  G_read := He.glo_ok X G (c.t.d.fact 21 (f := .glo "read") rfl)
  G_woken := He.glo_ok X G (c.t.d.fact 22 (f := .glo "woken") rfl)
  G__law_cell := He.glo_ok X G (c.t.d.fact 23 (f := .glo "_law_cell") rfl)
  G__law_drawn := He.glo_ok X G (c.t.d.fact 24 (f := .glo "_law_drawn") rfl)
  G__law_roll := He.glo_ok X G (c.t.d.fact 25 (f := .glo "_law_roll") rfl)
  G__law_rounds := He.glo_ok X G (c.t.d.fact 26 (f := .glo "_law_rounds") rfl)
  G__law_word := He.glo_ok X G (c.t.d.fact 27 (f := .glo "_law_word") rfl)
  G__law_told := He.glo_ok X G (c.t.d.fact 28 (f := .glo "_law_told") rfl)
  G__law_deal := He.glo_ok X G (c.t.d.fact 29 (f := .glo "_law_deal") rfl)
  G__law_user := He.glo_ok X G (c.t.d.fact 30 (f := .glo "_law_user") rfl)
  G__law_row := He.glo_ok X G (c.t.d.fact 31 (f := .glo "_law_row") rfl)
  G__law_condition := He.glo_ok X G (c.t.d.fact 32 (f := .glo "_law_condition") rfl)
  G__law_holds := He.glo_ok X G (c.t.d.fact 33 (f := .glo "_law_holds") rfl)
  G__law_rules := He.glo_ok X G (c.t.d.fact 34 (f := .glo "_law_rules") rfl)
  G__law_share := He.glo_ok X G (c.t.d.fact 35 (f := .glo "_law_share") rfl)
  G__law_let := He.glo_ok X G (c.t.d.fact 36 (f := .glo "_law_let") rfl)
  G__law_has := He.glo_ok X G (c.t.d.fact 37 (f := .glo "_law_has") rfl)
  G__law_reach := He.glo_ok X G (c.t.d.fact 38 (f := .glo "_law_reach") rfl)
  G__law_name := He.glo_ok X G (c.t.d.fact 39 (f := .glo "_law_name") rfl)
  G__law_deed := He.glo_ok X G (c.t.d.fact 40 (f := .glo "_law_deed") rfl)
  G__law_due := He.glo_ok X G (c.t.d.fact 41 (f := .glo "_law_due") rfl)
  G__law_do := He.glo_ok X G (c.t.d.fact 42 (f := .glo "_law_do") rfl)
  G__law_like := He.glo_ok X G (c.t.d.fact 43 (f := .glo "_law_like") rfl)
  G__law_board := He.glo_ok X G (c.t.d.fact 44 (f := .glo "_law_board") rfl)
  G_law := He.glo_ok X G (c.t.d.fact 45 (f := .glo "law") rfl)
  G_GateError := He.glo_ok X G (c.t.d.fact 46 (f := .glo "GateError") rfl)
  X_GateError := ⟨He.glo_ok X G (c.t.d.fact 46 (f := .glo "GateError") rfl), c.t.d.fact 47 (f := .exc "GateError") rfl⟩
  G_BadUser := He.glo_ok X G (c.t.d.fact 48 (f := .glo "BadUser") rfl)
  X_BadUser := ⟨He.glo_ok X G (c.t.d.fact 48 (f := .glo "BadUser") rfl), c.t.d.fact 49 (f := .exc "BadUser") rfl⟩
  G_BadDeal := He.glo_ok X G (c.t.d.fact 50 (f := .glo "BadDeal") rfl)
  X_BadDeal := ⟨He.glo_ok X G (c.t.d.fact 50 (f := .glo "BadDeal") rfl), c.t.d.fact 51 (f := .exc "BadDeal") rfl⟩
  G_BadCondition := He.glo_ok X G (c.t.d.fact 52 (f := .glo "BadCondition") rfl)
  X_BadCondition := ⟨He.glo_ok X G (c.t.d.fact 52 (f := .glo "BadCondition") rfl), c.t.d.fact 53 (f := .exc "BadCondition") rfl⟩
  G_BadRules := He.glo_ok X G (c.t.d.fact 54 (f := .glo "BadRules") rfl)
  X_BadRules := ⟨He.glo_ok X G (c.t.d.fact 54 (f := .glo "BadRules") rfl), c.t.d.fact 55 (f := .exc "BadRules") rfl⟩
  G_BadName := He.glo_ok X G (c.t.d.fact 56 (f := .glo "BadName") rfl)
  X_BadName := ⟨He.glo_ok X G (c.t.d.fact 56 (f := .glo "BadName") rfl), c.t.d.fact 57 (f := .exc "BadName") rfl⟩
  G_BadNumber := He.glo_ok X G (c.t.d.fact 58 (f := .glo "BadNumber") rfl)
  X_BadNumber := ⟨He.glo_ok X G (c.t.d.fact 58 (f := .glo "BadNumber") rfl), c.t.d.fact 59 (f := .exc "BadNumber") rfl⟩
  G_Known := He.glo_ok X G (c.t.d.fact 60 (f := .glo "Known") rfl)
  X_Known := ⟨He.glo_ok X G (c.t.d.fact 60 (f := .glo "Known") rfl), c.t.d.fact 61 (f := .exc "Known") rfl⟩
  G_Ring := He.glo_ok X G (c.t.d.fact 62 (f := .glo "Ring") rfl)
  X_Ring := ⟨He.glo_ok X G (c.t.d.fact 62 (f := .glo "Ring") rfl), c.t.d.fact 63 (f := .exc "Ring") rfl⟩
  G_Full := He.glo_ok X G (c.t.d.fact 64 (f := .glo "Full") rfl)
  X_Full := ⟨He.glo_ok X G (c.t.d.fact 64 (f := .glo "Full") rfl), c.t.d.fact 65 (f := .exc "Full") rfl⟩
  G_BadDay := He.glo_ok X G (c.t.d.fact 66 (f := .glo "BadDay") rfl)
  X_BadDay := ⟨He.glo_ok X G (c.t.d.fact 66 (f := .glo "BadDay") rfl), c.t.d.fact 67 (f := .exc "BadDay") rfl⟩
  G_Nothing := He.glo_ok X G (c.t.d.fact 68 (f := .glo "Nothing") rfl)
  X_Nothing := ⟨He.glo_ok X G (c.t.d.fact 68 (f := .glo "Nothing") rfl), c.t.d.fact 69 (f := .exc "Nothing") rfl⟩
  G_BadText := He.glo_ok X G (c.t.d.fact 70 (f := .glo "BadText") rfl)
  X_BadText := ⟨He.glo_ok X G (c.t.d.fact 70 (f := .glo "BadText") rfl), c.t.d.fact 71 (f := .exc "BadText") rfl⟩
  G_Needed := He.glo_ok X G (c.t.d.fact 72 (f := .glo "Needed") rfl)
  G_Board := He.glo_ok X G (c.t.d.fact 73 (f := .glo "Board") rfl)
  M_Needed___init__ := He.meth_ok (c.t.d.fact 74 (f := .meth "Needed" "__init__") rfl)
  C_Board := He.cls_ok (c.t.d.fact 75 (f := .cls "Board") rfl)
  K_Board := He.mkr_ok (c.t.d.fact 76 (f := .mkr "Board") rfl)
  M_Board___init__ := He.meth_ok (c.t.d.fact 77 (f := .meth "Board" "__init__") rfl)
  M_Board___len__ := He.meth_ok (c.t.d.fact 78 (f := .meth "Board" "__len__") rfl)
  M_Board___eq__ := He.meth_ok (c.t.d.fact 79 (f := .meth "Board" "__eq__") rfl)
  M_Board___str__ := He.meth_ok (c.t.d.fact 80 (f := .meth "Board" "__str__") rfl)
  M_Board_becomes := He.meth_ok (c.t.d.fact 81 (f := .meth "Board" "becomes") rfl)
  M_Board_gets := He.meth_ok (c.t.d.fact 82 (f := .meth "Board" "gets") rfl)
  M_Board_need_switch := He.meth_ok (c.t.d.fact 83 (f := .meth "Board" "need_switch") rfl)
  M_Board_put := He.meth_ok (c.t.d.fact 84 (f := .meth "Board" "put") rfl)
  M_Board_rule := He.meth_ok (c.t.d.fact 85 (f := .meth "Board" "rule") rfl)
  M_Board_reach := He.meth_ok (c.t.d.fact 86 (f := .meth "Board" "reach") rfl)
  M_Board_need := He.meth_ok (c.t.d.fact 87 (f := .meth "Board" "need") rfl)
  M_Board_dark := He.meth_ok (c.t.d.fact 88 (f := .meth "Board" "dark") rfl)
  M_Board_drop := He.meth_ok (c.t.d.fact 89 (f := .meth "Board" "drop") rfl)
  M_Board_take_back := He.meth_ok (c.t.d.fact 90 (f := .meth "Board" "take_back") rfl)
  M_Board_names := He.meth_ok (c.t.d.fact 91 (f := .meth "Board" "names") rfl)
  M_Board_switch := He.meth_ok (c.t.d.fact 92 (f := .meth "Board" "switch") rfl)
  M_Board_is_open := He.meth_ok (c.t.d.fact 93 (f := .meth "Board" "is_open") rfl)
  M_Board_has := He.meth_ok (c.t.d.fact 94 (f := .meth "Board" "has") rfl)
  M_Board_why := He.meth_ok (c.t.d.fact 95 (f := .meth "Board" "why") rfl)
  N_Board_table := He.noat_ok (c.t.d.fact 96 (f := .noat "Board" "table") rfl)
  N_Board_past := He.noat_ok (c.t.d.fact 97 (f := .noat "Board" "past") rfl)
  Z_ValueError := He.free_ok X G (c.t.d.fact 98 (f := .free "ValueError") rfl)
  Z_all := He.free_ok X G (c.t.d.fact 99 (f := .free "all") rfl)
  Z_any := He.free_ok X G (c.t.d.fact 100 (f := .free "any") rfl)
  Z_bool := He.free_ok X G (c.t.d.fact 101 (f := .free "bool") rfl)
  Z_dict := He.free_ok X G (c.t.d.fact 102 (f := .free "dict") rfl)
  Z_int := He.free_ok X G (c.t.d.fact 103 (f := .free "int") rfl)
  Z_isinstance := He.free_ok X G (c.t.d.fact 104 (f := .free "isinstance") rfl)
  Z_len := He.free_ok X G (c.t.d.fact 105 (f := .free "len") rfl)
  Z_list := He.free_ok X G (c.t.d.fact 106 (f := .free "list") rfl)
  Z_max := He.free_ok X G (c.t.d.fact 107 (f := .free "max") rfl)
  Z_min := He.free_ok X G (c.t.d.fact 108 (f := .free "min") rfl)
  Z_range := He.free_ok X G (c.t.d.fact 109 (f := .free "range") rfl)
  Z_set := He.free_ok X G (c.t.d.fact 110 (f := .free "set") rfl)
  Z_sorted := He.free_ok X G (c.t.d.fact 111 (f := .free "sorted") rfl)
  Z_str := He.free_ok X G (c.t.d.fact 112 (f := .free "str") rfl)
  Z_sum := He.free_ok X G (c.t.d.fact 113 (f := .free "sum") rfl)
  Z_tuple := He.free_ok X G (c.t.d.fact 114 (f := .free "tuple") rfl)
  Z_zip := He.free_ok X G (c.t.d.fact 115 (f := .free "zip") rfl)
  I_GREATEST := He.int_ok X G (c.t.d.fact 116 (f := .int "GREATEST" 1000000000000) rfl)
  I_LANDS := He.int_ok X G (c.t.d.fact 117 (f := .int "LANDS" 6) rfl)
  I_PLANS := He.int_ok X G (c.t.d.fact 118 (f := .int "PLANS" 4) rfl)
  I_PLACES := He.int_ok X G (c.t.d.fact 119 (f := .int "PLACES" 100) rfl)
  I_MOST_DEEP := He.int_ok X G (c.t.d.fact 120 (f := .int "MOST_DEEP" 5) rfl)
  I_MOST_PARTS := He.int_ok X G (c.t.d.fact 121 (f := .int "MOST_PARTS" 40) rfl)
  S_LETTERS := He.str_ok X G (c.t.d.fact 122 (f := .str "LETTERS" "abcdefghijklmnopqrstuvwxyz") rfl)
  I_MOST := He.int_ok X G (c.t.d.fact 123 (f := .int "MOST" 12) rfl)
  S_END := He.str_ok X G (c.t.d.fact 124 (f := .str "END" ".") rfl)
  S_FIGURES := He.str_ok X G (c.t.d.fact 125 (f := .str "FIGURES" "0123456789") rfl)
  F__wall := c.t.d.def_ 0 (d := d__wall) rfl
  F_Needed___init__ := c.t.d.def_ 1 (d := d_Needed___init__) rfl
  F_is_number := c.t.d.def_ 2 (d := d_is_number) rfl
  F_rest := c.t.d.def_ 3 (d := d_rest) rfl
  F_need_user := c.t.d.def_ 4 (d := d_need_user) rfl
  F_need_deal := c.t.d.def_ 5 (d := d_need_deal) rfl
  F_place_of := c.t.d.def_ 6 (d := d_place_of) rfl
  F_is_row := c.t.d.def_ 7 (d := d_is_row) rfl
  F_parts_of := c.t.d.def_ 8 (d := d_parts_of) rfl
  F_is_condition := c.t.d.def_ 9 (d := d_is_condition) rfl
  F_fits := c.t.d.def_ 10 (d := d_fits) rfl
  F_is_rule := c.t.d.def_ 11 (d := d_is_rule) rfl
  F_are_rules := c.t.d.def_ 12 (d := d_are_rules) rfl
  F_need_rules := c.t.d.def_ 13 (d := d_need_rules) rfl
  F_share_of := c.t.d.def_ 14 (d := d_share_of) rfl
  F_lets := c.t.d.def_ 15 (d := d_lets) rfl
  F_is_name := c.t.d.def_ 16 (d := d_is_name) rfl
  F_need_name := c.t.d.def_ 17 (d := d_need_name) rfl
  F_Board___init__ := c.t.d.def_ 18 (d := d_Board___init__) rfl
  F_Board___len__ := c.t.d.def_ 19 (d := d_Board___len__) rfl
  F_Board___eq__ := c.t.d.def_ 20 (d := d_Board___eq__) rfl
  F_Board___str__ := c.t.d.def_ 21 (d := d_Board___str__) rfl
  F_Board_becomes := c.t.d.def_ 22 (d := d_Board_becomes) rfl
  F_Board_gets := c.t.d.def_ 23 (d := d_Board_gets) rfl
  F_Board_need_switch := c.t.d.def_ 24 (d := d_Board_need_switch) rfl
  F_Board_put := c.t.d.def_ 25 (d := d_Board_put) rfl
  F_Board_rule := c.t.d.def_ 26 (d := d_Board_rule) rfl
  F_Board_reach := c.t.d.def_ 27 (d := d_Board_reach) rfl
  F_Board_need := c.t.d.def_ 28 (d := d_Board_need) rfl
  F_Board_dark := c.t.d.def_ 29 (d := d_Board_dark) rfl
  F_Board_drop := c.t.d.def_ 30 (d := d_Board_drop) rfl
  F_Board_take_back := c.t.d.def_ 31 (d := d_Board_take_back) rfl
  F_Board_names := c.t.d.def_ 32 (d := d_Board_names) rfl
  F_Board_switch := c.t.d.def_ 33 (d := d_Board_switch) rfl
  F_Board_is_open := c.t.d.def_ 34 (d := d_Board_is_open) rfl
  F_Board_has := c.t.d.def_ 35 (d := d_Board_has) rfl
  F_Board_why := c.t.d.def_ 36 (d := d_Board_why) rfl
  F_written := c.t.d.def_ 37 (d := d_written) rfl
  F_saved := c.t.d.def_ 38 (d := d_saved) rfl
  F_need := c.t.d.def_ 39 (d := d_need) rfl
  F_read_word := c.t.d.def_ 40 (d := d_read_word) rfl
  F_read := c.t.d.def_ 41 (d := d_read) rfl
  F_woken := c.t.d.def_ 42 (d := d_woken) rfl
  F__law_cell := c.t.d.def_ 43 (d := d__law_cell) rfl
  F__law_drawn := c.t.d.def_ 44 (d := d__law_drawn) rfl
  F__law_roll := c.t.d.def_ 45 (d := d__law_roll) rfl
  F__law_rounds := c.t.d.def_ 46 (d := d__law_rounds) rfl
  F__law_word := c.t.d.def_ 47 (d := d__law_word) rfl
  F__law_told := c.t.d.def_ 48 (d := d__law_told) rfl
  F__law_deal := c.t.d.def_ 49 (d := d__law_deal) rfl
  F__law_user := c.t.d.def_ 50 (d := d__law_user) rfl
  F__law_row := c.t.d.def_ 51 (d := d__law_row) rfl
  F__law_condition := c.t.d.def_ 52 (d := d__law_condition) rfl
  F__law_holds := c.t.d.def_ 53 (d := d__law_holds) rfl
  F__law_rules := c.t.d.def_ 54 (d := d__law_rules) rfl
  F__law_share := c.t.d.def_ 55 (d := d__law_share) rfl
  F__law_let := c.t.d.def_ 56 (d := d__law_let) rfl
  F__law_has := c.t.d.def_ 57 (d := d__law_has) rfl
  F__law_reach := c.t.d.def_ 58 (d := d__law_reach) rfl
  F__law_name := c.t.d.def_ 59 (d := d__law_name) rfl
  F__law_deed := c.t.d.def_ 60 (d := d__law_deed) rfl
  F__law_due := c.t.d.def_ 61 (d := d__law_due) rfl
  F__law_do := c.t.d.def_ 62 (d := d__law_do) rfl
  F__law_like := c.t.d.def_ 63 (d := d__law_like) rfl
  F__law_board := c.t.d.def_ 64 (d := d__law_board) rfl
  F_law := c.t.d.def_ 65 (d := d_law) rfl
theorem lam_mem {x : Str} (h : x ∈ tfS) : (x, none) ∈ tfl := (List.mem_map (f := fun x : Str => ((x, none) : He.Defn))).mpr ⟨x, h, rfl⟩
abbrev Rw : PySem.W.OpenRow := PySem.W.OpenLaw.row PySem.Challenge.rw_rollgates_k80_whole_saved_and_woken
def nm0 : List Str := ["_wall", "__name__", "GateError", "BadUser", "BadDeal", "BadCondition", "BadRules", "BadName", "BadNumber", "Known", "Ring", "Full", "BadDay", "Nothing", "BadText", "Needed", "GREATEST", "LANDS", "PLANS", "PLACES", "MOST_DEEP", "MOST_PARTS", "is_number", "rest", "need_user", "need_deal", "place_of", "is_row", "parts_of", "is_condition"]
def nm1 : List Str := ["fits", "is_rule", "are_rules", "need_rules", "share_of", "lets", "LETTERS", "MOST", "is_name", "need_name", "Board", "END", "FIGURES", "written", "saved", "need", "read_word", "read", "woken", "_law_cell", "_law_drawn", "_law_roll", "_law_rounds", "_law_word", "_law_told", "_law_deal", "_law_user", "_law_row", "_law_condition", "_law_holds"]
def nm2 : List Str := ["_law_rules", "_law_share", "_law_let", "_law_has", "_law_reach", "_law_name", "_law_deed", "_law_due", "_law_do", "_law_like", "_law_board"]
def nml : List Str := nm0 ++ nm1 ++ nm2
def asl : List Nat := [3, 6, 4, 21, 31, 44, 56, 68, 80, 92, 104, 116, 128, 140, 152, 164, 176, 195, 204, 211, 218, 225, 232, 237, 242, 249, 254, 261, 266, 273, 280, 287, 292, 299, 441, 450, 455, 462, 467, 474, 481, 488, 495, 502, 507, 512, 519, 526, 533, 538, 543, 550, 557, 564, 571, 576, 583, 590, 595, 600, 607, 614, 621, 626, 0, 20, 30, 43, 55, 67, 79, 91, 103, 115, 127, 139, 151, 163, 175, 194, 203, 210, 217, 224, 231, 236, 241, 248, 253, 260, 265, 272, 279, 286, 291, 298, 440, 449, 454, 461, 466, 473, 480, 487, 494, 501, 506, 511, 518, 525, 532, 537, 542, 549, 556, 563, 570, 575, 582, 589, 594, 599, 606, 613, 620, 625, 15, 16, 17, 18, 19, 29, 32, 42, 54, 66, 78, 90, 102, 114, 126, 138, 150, 162, 174, 192, 193, 198, 199, 200, 201, 202, 205, 206, 207, 208, 209, 212, 213, 214, 215, 216, 219, 220, 221, 222, 223, 226, 227, 228, 229, 230, 233, 234, 235, 238, 239, 240, 243, 244, 245, 246, 247, 250, 251, 252, 255, 256, 257, 258, 259, 262, 263, 264, 267, 268, 269, 270, 271, 274, 275, 276, 277, 278, 281, 282, 283, 284, 285, 288, 289, 290, 293, 294, 295, 296, 297, 313, 320, 327, 334, 341, 348, 355, 362, 369, 376, 383, 391, 398, 405, 412, 419, 424, 431, 438, 439, 442, 443, 446, 447, 448, 451, 452, 453, 456, 457, 458, 459, 460, 463, 464, 465, 468, 469, 470, 471, 472, 475, 476, 477, 478, 479, 482, 483, 484, 485, 486, 489, 490, 491, 492, 493, 496, 497, 498, 499, 500, 503, 504, 505, 508, 509, 510, 513, 514, 515, 516, 517, 520, 521, 522, 523, 524, 527, 528, 529, 530, 531, 534, 535, 536, 539, 540, 541, 544, 545, 546, 547, 548, 551, 552, 553, 554, 555, 558, 559, 560, 561, 562, 565, 566, 567, 568, 569, 572, 573, 574, 577, 578, 579, 580, 581, 584, 585, 586, 587, 588, 591, 592, 593, 596, 597, 598, 601, 602, 603, 604, 605, 608, 609, 610, 611, 612, 615, 616, 617, 618, 619, 622, 623, 624, 191, 312, 319, 326, 333, 340, 347, 354, 361, 368, 375, 382, 390, 384, 397, 404, 411, 418, 423, 430, 437, 186, 187, 188, 189, 190, 307, 308, 309, 310, 311, 314, 315, 316, 317, 318, 321, 322, 323, 324, 325, 328, 329, 330, 331, 332, 335, 336, 337, 338, 339, 342, 343, 344, 345, 346, 349, 350, 351, 352, 353, 356, 357, 358, 359, 360, 363, 364, 365, 366, 367, 370, 371, 372, 373, 374, 377, 378, 379, 380, 381, 385, 386, 387, 388, 389, 392, 393, 394, 395, 396, 399, 400, 401, 402, 403, 406, 407, 408, 409, 410, 413, 414, 415, 416, 417, 420, 421, 422, 425, 426, 427, 428, 429, 432, 433, 434, 435, 436, 2]
abbrev hkl : PySem.W.Hook := hookA asl fal fnl tfl exl
def obl (s : PySem.W.SharedT) : He.AlX := obsA asl fal fnl tfl exl (HandSHeadRun.getT s)
theorem obl_eq (s : PySem.W.SharedT) : obl s = hkl.obs s.abs := obsA_eq (HandSHeadRun.getT_eq s)
theorem run1 (w : World) (os : OsState) : (topE Rw.prog 8720 w os).map (fun s => (HandSHeadRun.looksF Rw.prog (PySem.W.boot_heap w.params) s.abs, HandSHeadRun.seenQ (PySem.W.view Rw.prog [75]) nml (importedModules Rw.prog.main.body) (fun s => PySem.W.xlAt (PySem.W.view Rw.prog [75]) [] s && PySem.W.recOk Rw.toRowW.records s) s.abs)) = some (true, PySem.W.openGood (PySem.W.view Rw.prog [75]) nml) := by
  kernel_rfl
theorem run2 (w : World) (os : OsState) : (topE Rw.prog 8720 w os).map (fun s => (fal.all (fun f => f.ok (kA asl s)), fnl.map fun d => He.fnW (kA asl s) d.at_)) = some (true, fnl.map He.DefD.val) := by
  kernel_rfl
theorem run3 (w : World) (os : OsState) : (topE Rw.prog 8720 w os).map (fun s => (fnl.all (fun d => d.ok (kA asl s)), exl (kA asl s) && He.tabsB (HandSHeadRun.getT s) tfl (kA asl s))) = some (true, true) := by
  kernel_rfl
theorem runl (w : World) : HandSHeadRun.RunEq Rw (PySem.W.view Rw.prog [75]) hkl obl 8720 nml w := runs_join (run1 w) (run2 w) (run3 w)
end RG
local macro_rules | `(tactic| walk_at "1") => `(tactic| first
  | with_reducible refine RG.w_seq ?_
  | with_reducible refine RG.w_set ?_
  | with_reducible refine RG.w_asg ?_
  | with_reducible refine RG.w_ret ?_
  | with_reducible refine RG.w_ifs ?_
  | with_reducible refine RG.w_drop ?_
  | with_reducible refine RG.w_next ?_
  | with_reducible refine RG.w_par ?_
  | with_reducible refine RG.w_par3 ?_
  | with_reducible refine RG.w_retN ?_
  | ((with_reducible show L2.tVar _ _ _ _); refine RG.w_var rfl ?_)
  | with_reducible refine RG.w_c ?_
  | with_reducible refine RG.w_op ?_
  | with_reducible refine RG.w_I0 ?_
  | with_reducible refine RG.w_test ?_
  | with_reducible refine RG.w_B ?_
  | with_reducible refine RG.w_and ?_
  | with_reducible refine RG.w_or ?_
  | with_reducible refine RG.w_not ?_
  | with_reducible refine RG.w_cons ?_
  | with_reducible refine RG.w_nil ?_
  | with_reducible refine RG.w_call ?_
  | with_reducible refine RG.w_cb ?_
  | with_reducible refine RG.w_chain ?_
  | with_reducible refine RG.w_andV ?_
  | with_reducible refine RG.w_orV ?_
  | with_reducible refine RG.w_notV ?_
  | with_reducible refine RG.w_if ?_
  | with_reducible refine RG.w_eqI ?_
  | with_reducible refine RG.w_neI ?_
  | with_reducible refine RG.w_eqS ?_
  | with_reducible refine RG.w_isN ?_
  | with_reducible refine RG.w_notN ?_
  | with_reducible refine RG.w_un ?_
  | with_reducible refine RG.w_U ?_
  | with_reducible refine RG.w_tup ?_
  | with_reducible refine RG.w_lst ?_
  | with_reducible refine RG.w_sl ?_
  | with_reducible refine RG.w_part ?_
  | with_reducible refine RG.w_noPart ?_
  | with_reducible refine RG.w_bm ?_
  | with_reducible refine RG.w_bm0 ?_
  | with_reducible refine RG.w_sub ?_
  | with_reducible refine RG.w_name ?_
  | with_reducible refine RG.w_max2 ?_
  | with_reducible refine RG.w_min2 ?_
  | with_reducible refine RG.w_intI ?_
  | with_reducible refine RG.w_intB ?_
  | with_reducible refine RG.w_rz ?_
  | with_reducible refine RG.w_lc ?_
  | with_reducible refine RG.w_for ?_
  | with_reducible refine RG.w_rng1 ?_
  | with_reducible refine RG.w_rng2 ?_
  | with_reducible refine RG.w_iList ?_
  | with_reducible refine RG.w_iTup ?_
  | with_reducible refine RG.w_iEnum ?_
  | with_reducible refine RG.w_iZip ?_
  | with_reducible refine RG.w_yes ?_
  | with_reducible refine RG.w_enumT ?_
  | with_reducible refine RG.w_zipA ?_
  | with_reducible refine RG.w_lrg ?_
  | with_reducible refine RG.w_rg1 ?_
  | with_reducible refine RG.w_gcons ?_
  | with_reducible refine RG.w_gnil ?_
  | with_reducible refine RG.if_t rfl ?_
  | with_reducible refine RG.if_f rfl ?_
  | (with_reducible refine ⟨_, rfl, ?_⟩)
  | (with_reducible refine ⟨_, _, rfl, ?_⟩))
local macro_rules | `(tactic| walk_at "c") => `(tactic| dsimp only [L2.wipe, List.set_cons_zero, List.set_cons_succ, List.append_nil, List.cons_append, List.nil_append, Bool.not_true, Bool.not_false])
local macro_rules | `(tactic| walk_at "0") => `(tactic| simp only [L2.start, List.map_cons, List.map_nil, List.length_cons, List.length_nil, Nat.reduceAdd, Nat.reduceSub, Nat.sub_self, List.replicate_succ, List.replicate_zero, List.cons_append, List.nil_append, List.append_nil])
local macro_rules | `(tactic| walk_at "g") => `(tactic| repeat (walk_at "1"; (try walk_at "c")))
local macro_rules | `(tactic| walk_at "s1") => `(tactic| first
  | with_reducible refine RG.w_seq ?_
  | with_reducible refine RG.w_set ?_
  | with_reducible refine RG.w_ret ?_
  | with_reducible refine RG.w_drop ?_
  | with_reducible refine RG.w_ifs ?_
  | with_reducible refine RG.w_next ?_)
local macro_rules | `(tactic| walk_at "s") => `(tactic| repeat (walk_at "s1"; (try walk_at "c")))
local macro_rules | `(tactic| walk_at "p1") => `(tactic| first
  | with_reducible refine RG.w_seq ?_
  | with_reducible refine RG.w_set ?_
  | with_reducible refine RG.w_asg ?_
  | with_reducible refine RG.w_ret ?_
  | with_reducible refine RG.w_drop ?_
  | with_reducible refine RG.w_ifs ?_
  | with_reducible refine RG.w_for ?_
  | with_reducible refine RG.w_gcons ?_
  | with_reducible refine RG.w_gnil ?_
  | with_reducible refine RG.w_name ?_
  | with_reducible refine RG.w_next ?_)
local macro_rules | `(tactic| walk_at "p") => `(tactic| (try walk_at "c") <;> repeat (walk_at "p1"; (try walk_at "c")))
local macro_rules | `(tactic| walk_at "d") => `(tactic| repeat (first
  | exact RG.evd_non
  | exact RG.evd_int
  | exact RG.evd_bl
  | exact RG.evd_str
  | exact RG.evd_neg
  | exact RG.evds_nil
  | exact RG.evd_vint rfl
  | (apply RG.evd_var rfl; assumption)
  | apply RG.evds_cons
  | apply RG.evd_tup
  | apply RG.evd_lst
  | apply RG.evl_lst
  | apply RG.evd_list
  | exact RG.len_ok rfl))
local macro_rules | `(tactic| walk_at "gd") => `(tactic| repeat (first
  | assumption
  | exact RG.gd_non
  | exact RG.gd_int
  | exact RG.gd_bool
  | exact RG.gd_str (by first | rfl | decide +kernel)
  | exact RG.gds_nil
  | refine RG.gds_cons ?_ ?_
  | refine RG.gd_tup ?_ ?_
  | refine RG.gd_list ?_ ?_
  | exact RG.len_ok rfl))
local macro_rules | `(tactic| walk_at "al") => `(tactic| ((repeat (first | exact RG.all_nil | refine RG.all_consT ?_ ⟨?_, ?_⟩)) <;> first | rfl | (walk_at "gd"; done) | skip))
local macro_rules | `(tactic| walk_at "k") => `(tactic| repeat (first
  | exact RG.evk_non
  | exact RG.evk_int
  | exact RG.evk_bl
  | exact RG.evk_str
  | exact RG.evk_neg
  | exact RG.evks_nil
  | exact RG.evk_vint rfl
  | (apply RG.evk_var rfl (by assumption); assumption)
  | apply RG.evks_cons (by assumption)
  | apply RG.evk_tup (by assumption)
  | apply RG.evk_lst (by assumption)
  | apply RG.evkl_lst
  | apply RG.evk_list (by assumption)
  | exact RG.len_ok rfl))
local macro_rules | `(tactic| walk_at "n") => `(tactic| repeat (first
  | exact RG.evn_non
  | exact RG.evn_int
  | exact RG.evn_bl
  | exact RG.evn_str
  | exact RG.evn_neg
  | exact RG.evns_nil
  | exact RG.evn_vint rfl
  | (apply RG.evn_var rfl; assumption)
  | apply RG.evns_cons
  | apply RG.evn_tup
  | apply RG.evn_lst
  | apply RG.evnl_lst
  | exact RG.len_ok rfl))
namespace RG
open PySem PySem.Spec PyProof.Rows L2
section
variable {P : Program} {w : World} {K : PySem.W.Frag} {mg : Str → Option Value} {base : Heap}
theorem places_perm {b s t : Int} (h2 : s % 2 ≠ 0) (h5 : s % 5 ≠ 0) (hs0 : 0 ≤ s) (hs1 : s ≤ 99) {i j : Nat} (hi : i < 100) (hj : j < 100) (e : ((b + (i : Int)) * s + t) % 100 = ((b + (j : Int)) * s + t) % 100) : i = j := by
  have h : (((i : Int) - j) * s) % 100 = 0 := by
    have e2 : (((b + (i : Int)) * s + t) - ((b + (j : Int)) * s + t)) % 100 = 0 := by
      rw [Int.sub_emod, e]
      simp
    have e3 : (((b + (i : Int)) * s + t) - ((b + (j : Int)) * s + t)) = ((i : Int) - j) * s := by
      rw [Int.add_mul, Int.add_mul, Int.sub_mul]
      omega
    rw [e3] at e2
    exact e2
  generalize hd : (i : Int) - j = d at h
  have d0 : -99 ≤ d ∧ d ≤ 99 := by omega
  have key : ∀ x : Fin 100, ∀ y : Fin 199, (x.val : Int) % 2 ≠ 0 → (x.val : Int) % 5 ≠ 0 → (((y.val : Int) - 99) * (x.val : Int)) % 100 = 0 → (y.val : Int) = 99 := by decide +kernel
  have k := key ⟨s.toNat, by omega⟩ ⟨(d + 99).toNat, by omega⟩
  have es : (((⟨s.toNat, by omega⟩ : Fin 100).val : Nat) : Int) = s := by
    show ((s.toNat : Nat) : Int) = s
    omega
  have ed : (((⟨(d + 99).toNat, by omega⟩ : Fin 199).val : Nat) : Int) = d + 99 := by
    show (((d + 99).toNat : Nat) : Int) = d + 99
    omega
  rw [es, ed] at k
  have k2 := k h2 h5 (by rw [show d + 99 - 99 = d by omega]; exact h)
  omega
/-- the places of a hundred numbers one behind the other -/
def row100 (b s t : Int) (n : Nat) : List Int := (List.range n).map fun (i : Nat) => ((b + (i : Int)) * s + t) % 100
theorem row100_succ (b s t : Int) (n : Nat) : row100 b s t (n + 1) = row100 b s t n ++ [((b + (n : Int)) * s + t) % 100] := by
  unfold row100
  rw [List.range_succ, List.map_append]
  rfl
theorem row100_nodup {b s t : Int} (h2 : s % 2 ≠ 0) (h5 : s % 5 ≠ 0) (hs0 : 0 ≤ s) (hs1 : s ≤ 99) : (row100 b s t 100).Nodup := by
  unfold row100
  refine List.pairwise_map.mpr (List.Pairwise.imp_of_mem ?_ List.nodup_range)
  intro i j hi hj hne e
  exact hne (places_perm h2 h5 hs0 hs1 (List.mem_range.mp hi) (List.mem_range.mp hj) e)
theorem row100_mem {b s t : Int} {x : Int} (h : x ∈ row100 b s t 100) : 0 ≤ x ∧ x < 100 := by
  unfold row100 at h
  obtain ⟨i, _, rfl⟩ := List.mem_map.mp h
  exact ⟨Int.emod_nonneg _ (by decide), Int.emod_lt_of_pos _ (by decide)⟩
def upto (n : Nat) : List Int := (List.range n).map fun (i : Nat) => (i : Int)
/-- a rising list of hundred unlike numbers below a hundred is 0 .. 99 -/
theorem sorted_is : ∀ (n : Nat) (l : List Int), l.length = n → l.Pairwise (· ≤ ·) → l.Nodup → (∀ x ∈ l, 0 ≤ x ∧ x < n) → l = upto n := by
  intro n
  induction n with
  | zero =>
    intro l h _ _ _
    cases l with
    | nil => rfl
    | cons x r => simp at h
  | succ n ih =>
    intro l hl hp hn hm
    rcases List.eq_nil_or_concat l with rfl | ⟨r, x, rfl⟩
    · simp at hl
    · simp only [List.concat_eq_append] at hl hp hn hm ⊢
      have hrl : r.length = n := by simpa using hl
      obtain ⟨p1, p2, p3⟩ := List.pairwise_append.mp hp
      obtain ⟨n1, n2, n3⟩ := List.pairwise_append.mp hn
      have hlt : ∀ y ∈ r, y < x := fun y hy => by
        have a1 : y ≤ x := p3 y hy x (by simp)
        have a2 : y ≠ x := n3 y hy x (by simp)
        omega
      have hx := hm x (by simp)
      have hr : ∀ y ∈ r, 0 ≤ y ∧ y < n := fun y hy => by
        have a1 := hm y (by simp [hy])
        have a2 := hlt y hy
        have a3 := hx.2
        omega
      have er := ih r hrl p1 n1 hr
      have hxn : x = n := by
        rcases Nat.eq_zero_or_pos n with h0 | h0
        · omega
        · have hmem : ((n - 1 : Nat) : Int) ∈ r := by
            rw [er]
            exact List.mem_map.mpr ⟨n - 1, List.mem_range.mpr (by omega), rfl⟩
          have := hlt _ hmem
          omega
      rw [er, hxn]
      unfold upto
      rw [List.range_succ, List.map_append]
      rfl
theorem row100_perm {b s t : Int} (h2 : s % 2 ≠ 0) (h5 : s % 5 ≠ 0) (hs0 : 0 ≤ s) (hs1 : s ≤ 99) : (row100 b s t 100).Perm (upto 100) := by
  have hp := List.mergeSort_perm (row100 b s t 100) (fun a b => decide (a ≤ b))
  have hs : ((row100 b s t 100).mergeSort fun a b => decide (a ≤ b)).Pairwise (· ≤ ·) := by
    have := List.pairwise_mergeSort (le := fun a b : Int => decide (a ≤ b)) (fun a b c h1 h2 => by simp at *; omega) (fun a b => by simp; omega) (row100 b s t 100)
    exact this.imp fun h => by simpa using h
  have e : ((row100 b s t 100).mergeSort fun a b => decide (a ≤ b)) = upto 100 := by
    refine sorted_is 100 _ ?_ hs (hp.nodup_iff.mpr (row100_nodup h2 h5 hs0 hs1)) fun x hx => row100_mem (hp.mem_iff.mp hx)
    rw [hp.length_eq]
    simp [row100]
  rw [← e]
  exact hp.symm
theorem upto_below : ∀ m : Fin 101, ((upto 100).filter fun x => decide (x < (m.val : Int))).length = m.val := by decide +kernel
/-- just m of a hundred places are below m -/
theorem row100_below {b s t m : Int} (h2 : s % 2 ≠ 0) (h5 : s % 5 ≠ 0) (hs0 : 0 ≤ s) (hs1 : s ≤ 99) (m0 : 0 ≤ m) (m1 : m ≤ 100) : (((row100 b s t 100).filter fun x => decide (x < m)).length : Int) = m := by
  have h := ((row100_perm (b := b) (t := t) h2 h5 hs0 hs1).filter fun x => decide (x < m)).length_eq
  have k := upto_below ⟨m.toNat, by omega⟩
  have e : (((⟨m.toNat, by omega⟩ : Fin 101).val : Nat) : Int) = m := by
    show ((m.toNat : Nat) : Int) = m
    omega
  rw [e] at k
  rw [h, k]
  exact e
/-- a whole number between -/
def isNum (d : PyData) (lo hi : Int) : Bool := match d with
  | .int i => decide (lo ≤ i) && decide (i ≤ hi)
  | _ => false
def spIsNum (K : PySem.W.Frag) : Sp := fun vs H Q _ => ∃ (v : V) (d : PyData) (lo hi : Int), vs = [v, .int lo, .int hi] ∧ Dp K H v d ∧ Q (.bl (isNum d lo hi)) H
def spRest : Sp := fun vs H Q _ => ∃ (n m : Int), vs = [.int n, .int m] ∧ 0 < m ∧ m < 1073741824 ∧ Q (.int (n % m)) H
theorem rest_eq (n m : Int) : n - n / m * m = n % m := by
  rw [Int.emod_def, Int.mul_comm m]
theorem divW {i j : Int} (h : 0 < j) (h2 : j < 18446744073709551616) : CDivW i j := wide_div (b := 64) h (by omega) (by decide) (by decide)
def isUser (d : PyData) : Bool := match d with
  | .tuple [a, b, c] => isNum a 0 1000000000000 && (isNum b 0 5 && isNum c 0 3)
  | _ => false
def spNeedUser (K : PySem.W.Frag) : Sp := fun vs H Q E => ∃ (v : V) (d : PyData), vs = [v] ∧ Dp K H v d ∧ (isUser d = true → Q .non H) ∧ (isUser d = false → E (.ref (He.ga K "BadUser")) none H)
theorem isUser_len {ds : List PyData} (h : ds.length ≠ 3) : isUser (.tuple ds) = false := by
  match ds, h with
  | [], _ => rfl
  | [_], _ => rfl
  | [_, _], _ => rfl
  | [_, _, _], h => exact absurd rfl h
  | _ :: _ :: _ :: _ :: _, _ => rfl
def isDeal (d : PyData) : Bool := match d with
  | .tuple [.int a, .int b] => (decide (0 ≤ a) && decide (a ≤ 99)) && ((decide (0 ≤ b) && decide (b ≤ 99)) && (!decide (a % 2 = 0) && !decide (a % 5 = 0)))
  | _ => false
def spNeedDeal (K : PySem.W.Frag) : Sp := fun vs H Q E => ∃ (v : V) (d : PyData), vs = [v] ∧ Dp K H v d ∧ (isDeal d = true → Q .non H) ∧ (isDeal d = false → E (.ref (He.ga K "BadDeal")) none H)
theorem isDeal_len {ds : List PyData} (h : ds.length ≠ 2) : isDeal (.tuple ds) = false := by
  unfold isDeal
  split
  · rename_i e
    cases e
    exact absurd rfl h
  · rfl
theorem isDeal_a {a b : PyData} (h : isNum a 0 99 = false) : isDeal (.tuple [a, b]) = false := by
  unfold isDeal
  split
  · rename_i e
    cases e
    simp only [isNum] at h
    simp only [h, Bool.false_and]
  · rfl
theorem isDeal_b {a b : PyData} (h : isNum b 0 99 = false) : isDeal (.tuple [a, b]) = false := by
  unfold isDeal
  split
  · rename_i e
    cases e
    simp only [isNum] at h
    simp only [h, Bool.false_and, Bool.and_false]
  · rfl
theorem isNum_int {d : PyData} {lo hi : Int} (h : isNum d lo hi = true) : ∃ i, d = .int i ∧ lo ≤ i ∧ i ≤ hi := by
  unfold isNum at h
  split at h
  · rename_i i
    simp at h
    exact ⟨i, rfl, h.1, h.2⟩
  · cases h
def spPlaceOf (K : PySem.W.Frag) : Sp := fun vs H Q _ => ∃ (n : Int) (v : V) (s t : Int), vs = [.int n, v] ∧ Dp K H v (.tuple [.int s, .int t]) ∧ 0 ≤ s ∧ s ≤ 99 ∧ Q (.int ((n * s + t) % 100)) H
def placeD : PyData → PyData → Int
  | .tuple (.int n :: _), .tuple [.int s, .int t] => (n * s + t) % 100
  | _, _ => 0
def spPlace (K : PySem.W.Frag) : Sp := fun vs H Q E => ∃ (u v : V) (d e : PyData), vs = [u, v] ∧ Dp K H u d ∧ Dp K H v e ∧ (isUser d = true → isDeal e = true → Q (.int (placeD d e)) H) ∧
  (isUser d = false → E (.ref (He.ga K "BadUser")) none H) ∧ (isUser d = true → isDeal e = false → E (.ref (He.ga K "BadDeal")) none H)
theorem isUser_is {d : PyData} (h : isUser d = true) : ∃ n l p : Int, d = .tuple [.int n, .int l, .int p] ∧ 0 ≤ n ∧ n ≤ 1000000000000 ∧ 0 ≤ l ∧ l ≤ 5 ∧ 0 ≤ p ∧ p ≤ 3 := by
  unfold isUser at h
  split at h
  · simp only [Bool.and_eq_true] at h
    obtain ⟨n, rfl, a, b⟩ := isNum_int h.1
    obtain ⟨l, rfl, c, d⟩ := isNum_int h.2.1
    obtain ⟨p, rfl, e, f⟩ := isNum_int h.2.2
    exact ⟨n, l, p, rfl, a, b, c, d, e, f⟩
  · cases h
theorem isDeal_is {d : PyData} (h : isDeal d = true) : ∃ s t : Int, d = .tuple [.int s, .int t] ∧ 0 ≤ s ∧ s ≤ 99 ∧ 0 ≤ t ∧ t ≤ 99 ∧ s % 2 ≠ 0 ∧ s % 5 ≠ 0 := by
  unfold isDeal at h
  split at h
  · rename_i s t
    simp at h
    exact ⟨s, t, rfl, by omega, by omega, by omega, by omega, by omega, by omega⟩
  · cases h
/-- the cell of a script: some int -/
def spCell (K : PySem.W.Frag) : Sp := fun vs H Q _ => ∃ (a : Addr) (k : Int) (ns : List Int), vs = [.ref a, .int k] ∧ SqL K H a (ns.map V.int) ∧ ns.length ≤ 100 ∧ 0 ≤ k ∧ k < 1000 ∧ ∀ z H', Same H H' → Q (.int z) H'
theorem shapedAll_ints : ∀ ns : List Int, PyData.canLayAll0 (ns.map PyData.int) = true
  | [] => rfl
  | n :: ns => by
    simp only [List.map_cons, PyData.canLayAll0, PyData.canLay0, shapedAll_ints ns, Bool.and_self]
theorem depthAll_ints : ∀ ns : List Int, PyData.depthAll (ns.map PyData.int) ≤ 1
  | [] => by simp [PyData.depthAll]
  | n :: ns => by
    have h := depthAll_ints ns
    simp only [List.map_cons, PyData.depthAll, PyData.depth]
    omega
theorem shaped_ints (ns : List Int) : SeqAt.shaped (.list (ns.map PyData.int)) = true := by
  have h1 := shapedAll_ints ns
  have h2 := depthAll_ints ns
  have h3 : PyData.depth (.list (ns.map PyData.int)) ≤ 64 := by
    simp only [PyData.depth]
    omega
  simp only [SeqAt.shaped, PyData.canLay0, h1, decide_eq_true h3, Bool.and_self]
theorem dp_ints {K : PySem.W.Frag} {H : Hp} {a : Addr} {ns : List Int} (h : SqL K H a (ns.map V.int)) : Dp K H (.ref a) (.list (ns.map PyData.int)) := .lst h (dpAll_ints ns)
theorem atI_ints {ns : List Int} {j : Int} (h0 : 0 ≤ j) (h1 : j < ns.length) : ∃ z, atI (ns.map V.int) j = some (.int z) := by
  have hj : j.toNat < ns.length := by omega
  refine ⟨ns[j.toNat], at_of (j := j.toNat) (by omega) ?_⟩
  rw [List.getElem?_map, List.getElem?_eq_getElem hj]
  rfl
def spDrawn : Sp := fun vs H Q _ => ∃ (c k : Int), vs = [.int c, .int k] ∧ ∀ z, 0 ≤ z → Q (.int z) H
theorem mulW {i j : Int} (a : 0 ≤ i) (b : i < 2 ^ 200) (c : 0 ≤ j) (d : j < 2 ^ 200) : CMulW i j := by
  refine wide_mul (a := 200) (b := 200) ?_ ?_ (by decide) (by decide) (by decide)
  · have e : ((2 : Int) ^ 200) = ((2 ^ 200 : Nat) : Int) := by norm_cast
    omega
  · have e : ((2 : Int) ^ 200) = ((2 ^ 200 : Nat) : Int) := by norm_cast
    omega
/-- some number below many; all but the dice stays -/
def spRoll : Sp := fun vs H Q _ => ∃ (a : Addr) (m : Int), vs = [.ref a, .int m] ∧ Dice H a ∧ 0 < m ∧ m < 18446744073709551616 ∧ ∀ r H', 0 ≤ r → r < m → But a H H' → Q (.int r) H'
theorem But.put {a : Addr} {H : Hp} {x k : Int} (d : Dice H a) : But a H (upd H a (.lst [.int x, .int k])) := ⟨d, ⟨x, k, upd_same⟩, fun b o e n => by
  rw [upd_ne n]
  exact e⟩
/-- some dice, each a new list -/
def spRounds (K : PySem.W.Frag) : Sp := fun vs H Q _ => ∃ (a : Addr) (m : Int) (ns : List Int), vs = [.ref a, .int m] ∧ SqL K H a (ns.map V.int) ∧ ns.length ≤ 100 ∧ 1 ≤ m ∧ m ≤ 10 ∧
  ∀ (L : Addr) (ds : List Addr) (H' : Hp), Same H H' → H' L = some (.lst (ds.map V.ref)) → (∀ d ∈ ds, H d = none ∧ d ≠ L ∧ Dice H' d) → H L = none → Q (.ref L) H'
/-- the loop over the rounds: each turn from some dice on; it changes nothing that stood but the dice, and goes on -/
theorem rounds_go {K : PySem.W.Frag} {a L : Addr} {ds : List Addr} {tb : TS} {D : Ends} {H : Hp} {n : Nat} {w0 : List (Option V)} (hw : w0.length = n) (hL : H L = some (.lst (ds.map V.ref))) (hds : ∀ d ∈ ds, d ≠ L ∧ Dice H d) (hd : ∀ σ' H', D.nx σ' H')
    (hbody : ∀ (w : List (Option V)) (H' : Hp) (d : Addr) (N : L2.St → Hp → Prop), w.length = n → Dice H' d → (∀ (w2 : List (Option V)) (H2 : Hp), w2.length = n → But d H' H2 → N (some (.ref a) :: w2) H2) →
      tb { D with nx := N, ct := N, bk := D.nx } ((some (.ref a) :: w).set 1 (some (.ref d))) H') :
    ForGoal (Itl K L) (gName 1) tb D (some (.ref a) :: w0) H := by
  refine for_go (walk_list (K := K) (a := L) (xs := ds.map V.ref)) (fun i σ H' => (∃ w : List (Option V), w.length = n ∧ σ = some (.ref a) :: w) ∧ H' L = some (.lst (ds.map V.ref)) ∧ ∀ d ∈ ds, Dice H' d) ⟨⟨w0, hw, rfl⟩, hL, fun d h => (hds d h).2⟩ (fun i σ H' _ h => lstOf h.2.1) ?_ (fun σ H' _ => hd σ H')
  rintro i x σ H' H'' hi ⟨⟨w, hw', rfl⟩, hL', hds'⟩ ⟨rfl, hx⟩
  rw [List.getElem?_map] at hx
  obtain ⟨d, hd1, rfl⟩ := Option.map_eq_some_iff.mp hx
  have hm := List.mem_of_getElem? hd1
  refine hbody w H'' d _ hw' (hds' d hm) fun w2 H2 hw2 b => ⟨⟨w2, hw2, rfl⟩, b.kp L _ hL' ((hds d hm).1).symm, fun e he => ?_⟩
  by_cases hed : e = d
  · subst hed
    exact b.d1
  · obtain ⟨x, k, hx⟩ := hds' e he
    exact ⟨x, k, b.kp e _ hx hed⟩
def spLaw (K : PySem.W.Frag) : Sp := fun vs H Q _ => ∃ (a : Addr) (ns : List Int), vs = [.ref a] ∧ SqL K H a (ns.map V.int) ∧ ns.length ≤ 63 ∧ ∀ H', Q (.bl true) H'
/-- some deal -/
def spDeal (K : PySem.W.Frag) : Sp := fun vs H Q _ => ∃ a : Addr, vs = [.ref a] ∧ Dice H a ∧ ∀ (p : Addr) (s t : Int) (H' : Hp), But a H H' → H p = none → H' p = some (.tup [.int s, .int t]) → isDeal (.tuple [.int s, .int t]) = true → Q (.ref p) H'
theorem atI_four {r a b c d : Int} (h0 : 0 ≤ r) (h1 : r < 4) : ∃ z, atI [V.int a, V.int b, V.int c, V.int d] r = some (.int z) ∧ (z = a ∨ z = b ∨ z = c ∨ z = d) := by
  have h : r = 0 ∨ r = 1 ∨ r = 2 ∨ r = 3 := by omega
  rcases h with rfl | rfl | rfl | rfl
  · exact ⟨a, rfl, .inl rfl⟩
  · exact ⟨b, rfl, .inr (.inl rfl)⟩
  · exact ⟨c, rfl, .inr (.inr (.inl rfl))⟩
  · exact ⟨d, rfl, .inr (.inr (.inr rfl))⟩
theorem isDeal_mk {s t : Int} (h0 : 0 ≤ s) (h1 : s ≤ 99) (h2 : 0 ≤ t) (h3 : t ≤ 99) (h4 : s % 2 ≠ 0) (h5 : s % 5 ≠ 0) : isDeal (.tuple [.int s, .int t]) = true := by
  simp [isDeal, h0, h1, h2, h3, h4, h5]
/-- some user -/
def spUser (K : PySem.W.Frag) : Sp := fun vs H Q _ => ∃ a : Addr, vs = [.ref a] ∧ Dice H a ∧ ∀ (p : Addr) (n l m : Int) (H' : Hp), But a H H' → H p = none → H' p = some (.tup [.int n, .int l, .int m]) → 0 ≤ n → n ≤ 1000000000000 → 0 ≤ l → l ≤ 5 → 0 ≤ m → m ≤ 3 → Q (.ref p) H'
theorem isUser_mk {n l m : Int} (h0 : 0 ≤ n) (h1 : n ≤ 1000000000000) (h2 : 0 ≤ l) (h3 : l ≤ 5) (h4 : 0 ≤ m) (h5 : m ≤ 3) : isUser (.tuple [.int n, .int l, .int m]) = true := by
  simp [isUser, isNum, h0, h1, h2, h3, h4, h5]
def rising : List PyData → Bool
  | .int a :: .int b :: r => decide (a < b) && rising (.int b :: r)
  | _ => true
def isRow (d : PyData) (m : Int) : Bool := match d with
  | .tuple (x :: xs) => (x :: xs).all (fun y => isNum y 0 (m - 1)) && rising (x :: xs)
  | _ => false
def spIsRow (K : PySem.W.Frag) : Sp := fun vs H Q _ => ∃ (v : V) (d : PyData) (m : Int), vs = [v, .int m] ∧ Dp K H v d ∧ okD d = true ∧ ∀ H', Same H H' → Q (.bl (isRow d m)) H'
theorem all_nums : ∀ {ds : List PyData} {lo hi : Int}, ds.all (fun y => isNum y lo hi) = true → ∃ ns : List Int, ds = ns.map PyData.int
  | [], _, _, _ => ⟨[], rfl⟩
  | d :: ds, lo, hi, h => by
    simp only [List.all_cons, Bool.and_eq_true] at h
    obtain ⟨i, rfl, _⟩ := isNum_int h.1
    obtain ⟨ns, rfl⟩ := all_nums h.2
    exact ⟨i :: ns, rfl⟩
/-- each next one greater -/
def upB : List Int → List Bool
  | a :: b :: r => decide (a < b) :: upB (b :: r)
  | _ => []
theorem upB_len : ∀ ns : List Int, (upB ns).length = ns.length - 1
  | [] => rfl
  | [_] => rfl
  | a :: b :: r => by
    simp only [upB, List.length_cons, upB_len (b :: r)]
    omega
theorem upB_get : ∀ {ns : List Int} {i : Nat} {x y : Int}, ns[i]? = some x → ns[i + 1]? = some y → (upB ns)[i]? = some (decide (x < y))
  | [], _, _, _, h, _ => by simp at h
  | [_], 0, _, _, _, h => by simp at h
  | [_], i + 1, _, _, h, _ => by simp at h
  | a :: b :: r, 0, x, y, h, h2 => by
    simp at h h2
    subst h h2
    rfl
  | a :: b :: r, i + 1, x, y, h, h2 => by
    have := upB_get (ns := b :: r) (i := i) (x := x) (y := y) (by simpa using h) (by simpa using h2)
    simpa [upB] using this
theorem rising_up : ∀ ns : List Int, rising (ns.map PyData.int) = (upB ns).all id
  | [] => rfl
  | [_] => rfl
  | a :: b :: r => by
    have h := rising_up (b :: r)
    simp only [List.map_cons] at h
    simp only [List.map_cons, rising, upB, List.all_cons, id, h]
theorem isRow_no {d : PyData} {m : Int} (h : isTupD d = false) : isRow d m = false := by
  cases d <;> first | rfl | cases h
/-- how many parts a condition has -/
def partsOf : Nat → PyData → Int
  | 0, _ => 0
  | n + 1, .tuple (.str z :: a :: r) =>
    if z = "land" then (if r.isEmpty && isRow a 6 then 1 else 0)
    else if z = "plan" then (if r.isEmpty && isRow a 4 then 1 else 0)
    else if ((decide (z = "and") || decide (z = "or")) && (decide (1 ≤ r.length) && decide (r.length ≤ 4))) || (decide (z = "not") && r.isEmpty) then
      (if ((a :: r).map (partsOf n)).contains 0 then 0 else 1 + ((a :: r).map (partsOf n)).sum)
    else 0
  | _ + 1, _ => 0
def spPartsR (K : PySem.W.Frag) (n : Nat) : Sp := fun vs H Q _ => ∃ (v : V) (d : PyData) (k : Nat), vs = [v, .int (k : Nat)] ∧ k < n ∧ Dp K H v d ∧ okD d = true ∧ ∀ H', Same H H' → Q (.int (partsOf k d)) H'
theorem inV_ints (x : Int) (ns : List Int) : inV (.int x) (ns.map V.int) = ns.contains x := by
  induction ns with
  | nil => rfl
  | cons n r ih =>
    simp only [inV, List.map_cons, List.any_cons, eqV, List.contains_cons] at ih ⊢
    rw [ih]
    have h : (n == x) = (x == n) := by
      rw [Bool.eq_iff_iff]
      constructor <;> (intro h; simp at h ⊢; exact h.symm)
    rw [h]
theorem flat_ints (ns : List Int) : (ns.map V.int).all flatV = true := by
  induction ns with
  | nil => rfl
  | cons n r ih => simp only [List.map_cons, List.all_cons, flatV, ih, Bool.and_self]
theorem partsOf_land {n : Nat} {a : PyData} {r : List PyData} : partsOf (n + 1) (.tuple (.str "land" :: a :: r)) = if r.isEmpty && isRow a 6 then 1 else 0 := by
  simp only [partsOf, if_true]
theorem partsOf_plan {n : Nat} {a : PyData} {r : List PyData} : partsOf (n + 1) (.tuple (.str "plan" :: a :: r)) = if r.isEmpty && isRow a 4 then 1 else 0 := by
  simp only [partsOf, show ¬ ("plan" : Str) = "land" by decide +kernel, if_false, if_true]
theorem partsOf_more {n : Nat} {z : Str} {a : PyData} {r : List PyData} (h1 : ¬ z = "land") (h2 : ¬ z = "plan") : partsOf (n + 1) (.tuple (.str z :: a :: r)) =
    if ((decide (z = "and") || decide (z = "or")) && (decide (1 ≤ r.length) && decide (r.length ≤ 4))) || (decide (z = "not") && r.isEmpty) then
      (if ((a :: r).map (partsOf n)).contains 0 then 0 else 1 + ((a :: r).map (partsOf n)).sum) else 0 := by
  simp only [partsOf, h1, h2, if_false]
theorem partsOf_no {n : Nat} {d : PyData} (h : isTupD d = false) : partsOf n d = 0 := by
  cases n with
  | zero => rfl
  | succ n => cases d <;> first | rfl | cases h
theorem partsOf_short {n : Nat} {ds : List PyData} (h : ds.length < 2) : partsOf n (.tuple ds) = 0 := by
  cases n with
  | zero => rfl
  | succ n =>
    match ds, h with
    | [], _ => rfl
    | [x], _ => cases x <;> rfl
theorem partsOf_word {n : Nat} {x a : PyData} {r : List PyData} (h : isStrD x = false) : partsOf n (.tuple (x :: a :: r)) = 0 := by
  cases n with
  | zero => rfl
  | succ n => cases x <;> first | rfl | cases h
def isCond (d : PyData) : Bool := decide (1 ≤ partsOf 5 d) && decide (partsOf 5 d ≤ 40)
def spIsCond (K : PySem.W.Frag) : Sp := fun vs H Q _ => ∃ (v : V) (d : PyData), vs = [v] ∧ Dp K H v d ∧ okD d = true ∧ ∀ H', Same H H' → Q (.bl (isCond d)) H'
def spNeedCond (K : PySem.W.Frag) : Sp := fun vs H Q E => ∃ (v : V) (d : PyData), vs = [v] ∧ Dp K H v d ∧ okD d = true ∧ (isCond d = true → ∀ H', Same H H' → Q .non H') ∧ (isCond d = false → ∀ H', Same H H' → E (.ref (He.ga K "BadCondition")) none H')
def inRowD (l : Int) (d : PyData) : Bool := match d with
  | .tuple ds => ds.any fun y => match y with
    | .int i => decide (i = l)
    | _ => false
  | _ => false
/-- whether a condition holds of a land and a plan -/
def fitsD : Nat → PyData → Int → Int → Bool
  | n + 1, .tuple (.str z :: a :: r), l, p =>
    if z = "land" then inRowD l a
    else if z = "plan" then inRowD p a
    else if z = "not" then !fitsD n a l p
    else if z = "and" then (a :: r).all fun y => fitsD n y l p
    else (a :: r).any fun y => fitsD n y l p
  | _, _, _, _ => false
def spFitsR (K : PySem.W.Frag) (n : Nat) : Sp := fun vs H Q _ => ∃ (v : V) (d : PyData) (l p : Int) (k : Nat), vs = [v, .int l, .int p] ∧ k < n ∧ Dp K H v d ∧ okD d = true ∧ partsOf k d ≠ 0 ∧ ∀ H', Same H H' → Q (.bl (fitsD k d l p)) H'
theorem isRow_inv {d : PyData} {m : Int} (h : isRow d m = true) : ∃ n ns, d = .tuple ((n :: ns).map PyData.int) ∧ ∀ i ∈ n :: ns, 0 ≤ i ∧ i ≤ m - 1 := by
  unfold isRow at h
  split at h
  · rename_i x xs
    rw [Bool.and_eq_true] at h
    obtain ⟨ns, e⟩ := all_nums h.1
    cases ns with
    | nil => cases e
    | cons n ns =>
      refine ⟨n, ns, by rw [e], fun i hi => ?_⟩
      have h1 := List.all_eq_true.mp h.1 (.int i) (by rw [e]; exact List.mem_map.mpr ⟨i, hi, rfl⟩)
      obtain ⟨j, ej, j0, j1⟩ := isNum_int h1
      cases ej
      exact ⟨j0, j1⟩
  · cases h
theorem inRowD_ints (l : Int) (ns : List Int) : inRowD l (.tuple (ns.map PyData.int)) = ns.contains l := by
  unfold inRowD
  induction ns with
  | nil => rfl
  | cons n r ih =>
    simp only [List.map_cons, List.any_cons, List.contains_cons] at ih ⊢
    rw [ih]
    have h : decide (n = l) = (l == n) := by
      by_cases e : n = l
      · subst e
        simp
      · rw [decide_eq_false e]
        exact (beq_eq_false_iff_ne.mpr fun q => e q.symm).symm
    rw [h]
/-- what a condition looks like -/
theorem parts_inv {k : Nat} {d : PyData} (h : partsOf (k + 1) d ≠ 0) : ∃ (z : Str) (a : PyData) (r : List PyData), d = .tuple (.str z :: a :: r) ∧ ((z = "land" ∧ r = [] ∧ isRow a 6 = true) ∨ (z = "plan" ∧ r = [] ∧ isRow a 4 = true) ∨
    (¬ z = "land" ∧ ¬ z = "plan" ∧ ((z = "not" ∧ r = []) ∨ ((z = "and" ∨ z = "or") ∧ 1 ≤ r.length ∧ r.length ≤ 4)) ∧ ∀ y ∈ a :: r, partsOf k y ≠ 0)) := by
  cases ht : isTupD d with
  | false => exact absurd (partsOf_no ht) h
  | true =>
  obtain ⟨ds, rfl⟩ := is_tup ht
  match ds with
  | [] => exact absurd rfl h
  | [_] => exact absurd (partsOf_short (by simp)) h
  | x :: a :: r =>
  cases hs : isStrD x with
  | false => exact absurd (partsOf_word hs) h
  | true =>
  obtain ⟨z, rfl⟩ := is_str hs
  refine ⟨z, a, r, rfl, ?_⟩
  by_cases hl : z = "land"
  · subst hl
    rw [partsOf_land] at h
    cases hc : r.isEmpty && isRow a 6 with
    | false =>
      rw [hc] at h
      exact absurd rfl h
    | true =>
      rw [Bool.and_eq_true] at hc
      exact .inl ⟨rfl, List.isEmpty_iff.mp hc.1, hc.2⟩
  · by_cases hp : z = "plan"
    · subst hp
      rw [partsOf_plan] at h
      cases hc : r.isEmpty && isRow a 4 with
      | false =>
        rw [hc] at h
        exact absurd rfl h
      | true =>
        rw [Bool.and_eq_true] at hc
        exact .inr (.inl ⟨rfl, List.isEmpty_iff.mp hc.1, hc.2⟩)
    · rw [partsOf_more hl hp] at h
      refine .inr (.inr ⟨hl, hp, ?_⟩)
      split at h
      · rename_i hg
        split at h
        · exact absurd rfl h
        · rename_i hc
          refine ⟨?_, fun y hy e => hc ?_⟩
          · simp only [Bool.or_eq_true, Bool.and_eq_true, decide_eq_true_eq, List.isEmpty_iff] at hg
            rcases hg with ⟨h1, h2, h3⟩ | ⟨h1, h2⟩
            · exact .inr ⟨h1, h2, h3⟩
            · exact .inl ⟨h1, h2⟩
          · rw [List.contains_iff_mem]
            exact List.mem_map.mpr ⟨y, hy, e⟩
      · exact absurd rfl h
def landD : PyData → Int
  | .tuple [_, .int l, _] => l
  | _ => 0
def planD : PyData → Int
  | .tuple [_, _, .int p] => p
  | _ => 0
def spHolds (K : PySem.W.Frag) : Sp := fun vs H Q E => ∃ (v u : V) (d e : PyData), vs = [v, u] ∧ Dp K H v d ∧ Dp K H u e ∧ okD d = true ∧ (isCond d = true → isUser e = true → ∀ H', Same H H' → Q (.bl (fitsD 5 d (landD e) (planD e))) H') ∧
  (isCond d = false → ∀ H', Same H H' → E (.ref (He.ga K "BadCondition")) none H') ∧ (isCond d = true → isUser e = false → ∀ H', Same H H' → E (.ref (He.ga K "BadUser")) none H')
theorem isCond_parts {d : PyData} (h : isCond d = true) : partsOf 5 d ≠ 0 := by
  simp only [isCond, Bool.and_eq_true, decide_eq_true_eq] at h
  omega
/-- all tuples of land and plan -/
def kd (k : Int × Int) : PyData := .tuple [.int k.1, .int k.2]
def kindsTo (n : Nat) : List (Int × Int) := (List.range n).flatMap fun (l : Nat) => (List.range 4).map fun (p : Nat) => ((l : Int), (p : Int))
abbrev kindL : List (Int × Int) := kindsTo 6
def spKinds (K : PySem.W.Frag) : Sp := fun vs H Q _ => vs = [] ∧ ∀ (L : Addr) (xs : List V) (H' : Hp), Same H H' → H L = none → H' L = some (.lst xs) → DpAll K H' xs (kindL.map kd) → Q (.ref L) H'
theorem kindsTo_succ (n : Nat) : kindsTo (n + 1) = kindsTo n ++ (List.range 4).map fun (p : Nat) => ((n : Int), (p : Int)) := by
  unfold kindsTo
  rw [List.range_succ (n := n), List.flatMap_append]
  simp
theorem kindsTo_len (n : Nat) : (kindsTo n).length = 4 * n := by
  induction n with
  | zero => rfl
  | succ n ih =>
    rw [kindsTo_succ, List.length_append, ih]
    simp
    omega
theorem kd_imm (k : Int × Int) : imm (kd k) = true := by
  simp [kd, imm, immAll]
theorem immAll_kd (l : List (Int × Int)) : immAll (l.map kd) = true := immAll_mem fun d hd => by
  obtain ⟨k, _, rfl⟩ := List.mem_map.mp hd
  exact kd_imm k
theorem dp_kd {K : PySem.W.Frag} {H : Hp} {p : Addr} {l m : Int} (h : H p = some (.tup [.int l, .int m])) : Dp K H (.ref p) (kd (l, m)) := .tup (tupOf h) (.cons (.int l) (.cons (.int m) .nil))
def spKindsOf (K : PySem.W.Frag) : Sp := fun vs H Q E => ∃ (v : V) (d : PyData), vs = [v] ∧ Dp K H v d ∧ okD d = true ∧ (isCond d = true → ∀ (L : Addr) (xs : List V) (H' : Hp), Same H H' → H L = none → H' L = some (.lst xs) → DpAll K H' xs ((kindL.filter fun k => fitsD 5 d k.1 k.2).map kd) → Q (.ref L) H') ∧
  (isCond d = false → ∀ H', Same H H' → E (.ref (He.ga K "BadCondition")) none H')
theorem getElem?_kd {K : PySem.W.Frag} {H : Hp} {xs : List V} {l : List (Int × Int)} {i : Nat} {x : V} (h : DpAll K H xs (l.map kd)) (hx : xs[i]? = some x) : ∃ k a, l[i]? = some k ∧ x = .ref a ∧ SqT K H a [.int k.1, .int k.2] := by
  obtain ⟨d, hd, dd⟩ := dpAll_getV h hx
  rw [List.getElem?_map] at hd
  obtain ⟨k, hk, rfl⟩ := Option.map_eq_some_iff.mp hd
  obtain ⟨a, ys, rfl, hs, hys⟩ := dp_tuple dd
  cases hys with
  | cons h1 h2 =>
    cases h1
    cases h2 with
    | cons h3 h4 =>
      cases h3
      cases h4
      exact ⟨k, a, hk, rfl, hs⟩
def spLawRow (K : PySem.W.Frag) : Sp := fun vs H Q _ => ∃ (a : Addr) (m : Int), vs = [.ref a, .int m] ∧ Dice H a ∧ 1 ≤ m ∧ m ≤ 100 ∧
  ∀ (p : Addr) (ns : List Int) (H' : Hp), But a H H' → H p = none → H' p = some (.tup (ns.map V.int)) → ns.length ≤ 100 → isRow (.tuple (ns.map PyData.int)) m = true → Q (.ref p) H'
theorem upB_pair : ∀ {ns : List Int}, ns.Pairwise (· < ·) → (upB ns).all id = true
  | [], _ => rfl
  | [_], _ => rfl
  | a :: b :: r, h => by
    have h1 := List.pairwise_cons.mp h
    have h2 := h1.1 b (by simp)
    simp only [upB, List.all_cons, id, upB_pair h1.2, decide_eq_true h2, Bool.and_self]
theorem isRow_mk {ns : List Int} {m : Int} (h0 : ns ≠ []) (h1 : ns.Pairwise (· < ·)) (h2 : ∀ i ∈ ns, 0 ≤ i ∧ i ≤ m - 1) : isRow (.tuple (ns.map PyData.int)) m = true := by
  cases ns with
  | nil => exact absurd rfl h0
  | cons n r =>
    have e1 : (((n :: r).map PyData.int).all fun y => isNum y 0 (m - 1)) = true := by
      rw [List.all_map, List.all_eq_true]
      intro i hi
      obtain ⟨a, b⟩ := h2 i hi
      simp [isNum, a, b]
    have e2 : rising ((n :: r).map PyData.int) = true := by
      rw [rising_up, upB_pair h1]
    show ((((n :: r).map PyData.int).all fun y => isNum y 0 (m - 1)) && rising ((n :: r).map PyData.int)) = true
    rw [e1, e2]
    rfl
theorem dpAll_some_ints {K : PySem.W.Frag} {H : Hp} {vs : List V} {ns : List Int} (h : DpAll K H vs (ns.map PyData.int)) : vs = ns.map V.int := dpAll_intsV h
theorem eqv_nil (ds : List PyData) : PyData.eqv (.list ds) (.list []) = ds.isEmpty := by
  cases ds <;> rfl
def bnd : Nat → Int
  | 0 => 0
  | 1 => 1
  | 2 => 4
  | 3 => 13
  | _ => 27
/-- a drawn condition -/
structure CondG (k : Nat) (d : PyData) : Prop where
  im : imm d = true
  cl : d.canLay0 = true
  dp : d.depth ≤ 10 * k
  nr : narrow d = true
  p0 : 1 ≤ partsOf k d
  p1 : partsOf k d ≤ bnd k
def spLCondR (K : PySem.W.Frag) (n : Nat) : Sp := fun vs H Q _ => ∃ (a : Addr) (k : Nat), vs = [.ref a, .int (k : Nat)] ∧ 1 ≤ k ∧ k < n ∧ n ≤ 5 ∧ Dice H a ∧ ∀ v d H', But a H H' → Dp K H' v d → CondG k d → Q v H'
theorem CondG.ok {k : Nat} {d : PyData} (g : CondG k d) (hk : k ≤ 5) : okD d = true := by
  have h : decide (d.depth ≤ 64) = true := decide_eq_true (by have := g.dp; omega)
  simp only [okD, SeqAt.shaped, g.cl, h, g.nr, Bool.and_self]
theorem CondG.ne {k : Nat} {d : PyData} (g : CondG k d) : partsOf k d ≠ 0 := by
  have := g.p0
  omega
theorem imm_ints (ns : List Int) : immAll (ns.map PyData.int) = true := immAll_mem fun d hd => by
  obtain ⟨i, _, rfl⟩ := List.mem_map.mp hd
  rfl
theorem narrow_ints : ∀ ns : List Int, narrowAll (ns.map PyData.int) = true
  | [] => rfl
  | n :: ns => by simp only [List.map_cons, narrowAll, narrow, narrow_ints ns, Bool.and_self]
theorem strOk_land : PyData.canLay0 (.str "land") = true := by kernel_rfl
theorem strOk_plan : PyData.canLay0 (.str "plan") = true := by kernel_rfl
theorem strOk_not : PyData.canLay0 (.str "not") = true := by kernel_rfl
theorem strOk_and : PyData.canLay0 (.str "and") = true := by kernel_rfl
theorem strOk_or : PyData.canLay0 (.str "or") = true := by kernel_rfl
theorem condG_leaf {k : Nat} {z : Str} {m : Int} {ns : List Int} (k0 : 1 ≤ k) (hz : (z = "land" ∧ m = 6) ∨ (z = "plan" ∧ m = 4)) (hl : ns.length ≤ 100) (h : isRow (.tuple (ns.map PyData.int)) m = true) : CondG k (.tuple [.str z, .tuple (ns.map PyData.int)]) := by
  obtain ⟨j, rfl⟩ : ∃ j, k = j + 1 := ⟨k - 1, by omega⟩
  have h1 : partsOf (j + 1) (.tuple [.str z, .tuple (ns.map PyData.int)]) = 1 := by
    rcases hz with ⟨rfl, rfl⟩ | ⟨rfl, rfl⟩
    · rw [partsOf_land, h]
      rfl
    · rw [partsOf_plan, h]
      rfl
  have hb : (1 : Int) ≤ bnd (j + 1) := by
    match j with
    | 0 => decide
    | 1 => decide
    | 2 => decide
    | j + 3 => exact (by decide : (1 : Int) ≤ 27)
  have hz2 : PyData.canLay0 (.str z) = true := by
    rcases hz with ⟨rfl, rfl⟩ | ⟨rfl, rfl⟩
    · exact strOk_land
    · exact strOk_plan
  have hd := depthAll_ints ns
  refine ⟨?_, ?_, ?_, ?_, by omega, by omega⟩
  · simp only [imm, immAll, imm_ints, Bool.and_self]
  · simp only [PyData.canLay0, PyData.canLayAll0, shapedAll_ints, Bool.and_true] at hz2 ⊢
    exact hz2
  · simp only [PyData.depth, PyData.depthAll]
    omega
  · simp only [narrow, narrowAll, List.length_map, List.length_cons, List.length_nil, narrow_ints, Bool.and_true, Bool.true_and]
    simp
    omega
theorem sum_bnd {f : PyData → Int} {b : Int} : ∀ {ds : List PyData}, (∀ d ∈ ds, 1 ≤ f d ∧ f d ≤ b) → (ds.length : Int) ≤ (ds.map f).sum ∧ (ds.map f).sum ≤ ds.length * b
  | [], _ => by simp
  | d :: ds, h => by
    have h1 := h d (by simp)
    have h2 := sum_bnd (ds := ds) fun e he => h e (by simp [he])
    simp only [List.map_cons, List.sum_cons, List.length_cons]
    have e : ((ds.length + 1 : Nat) : Int) * b = (ds.length : Int) * b + b := by
      rw [Int.natCast_add, Int.add_mul]
      simp
    rw [e]
    omega
theorem condG_node {k : Nat} {z : Str} {a : PyData} {r : List PyData} (hk : k ≤ 3) (hz : PyData.canLay0 (.str z) = true) (h1 : ¬ z = "land") (h2 : ¬ z = "plan")
    (hg : ((z = "and" ∨ z = "or") ∧ 1 ≤ r.length ∧ r.length ≤ 2 ∧ (k = 3 → r.length ≤ 1)) ∨ (z = "not" ∧ r = [])) (h : ∀ y ∈ a :: r, CondG k y) : CondG (k + 1) (.tuple (.str z :: a :: r)) := by
  have hl : r.length ≤ 2 ∧ (k = 3 → r.length ≤ 1) := by
    rcases hg with ⟨_, _, a, b⟩ | ⟨_, rfl⟩
    · exact ⟨a, b⟩
    · exact ⟨by simp, fun _ => by simp⟩
  have hgg : (((decide (z = "and") || decide (z = "or")) && (decide (1 ≤ r.length) && decide (r.length ≤ 4))) || (decide (z = "not") && r.isEmpty)) = true := by
    rcases hg with ⟨a | a, b, c, _⟩ | ⟨a, b⟩
    · simp [a, b, show r.length ≤ 4 by omega]
    · simp [a, b, show r.length ≤ 4 by omega]
    · simp [a, b]
  have hp : partsOf (k + 1) (.tuple (.str z :: a :: r)) = 1 + ((a :: r).map (partsOf k)).sum := by
    rw [partsOf_more h1 h2, hgg]
    have hc : ((a :: r).map (partsOf k)).contains 0 = false := by
      cases e : ((a :: r).map (partsOf k)).contains 0 with
      | false => rfl
      | true =>
        rw [List.contains_iff_mem] at e
        obtain ⟨y, hy, e⟩ := List.mem_map.mp e
        exact absurd e (h y hy).ne
    rw [hc]
    rfl
  have hs := sum_bnd (f := partsOf k) (b := bnd k) (ds := a :: r) fun d hd => ⟨(h d hd).p0, (h d hd).p1⟩
  have hdep := depthAll_le (m := 10 * k) (ds := a :: r) fun d hd => (h d hd).dp
  have hcl := canLayAll_mem (ds := a :: r) fun d hd => (h d hd).cl
  have hnr := narrowAll_of (ds := a :: r) fun d hd => (h d hd).nr
  have him := immAll_mem (l := a :: r) fun d hd => (h d hd).im
  refine ⟨?_, ?_, ?_, ?_, ?_, ?_⟩
  · simp only [imm, immAll, Bool.true_and] at him ⊢
    exact him
  · simp only [PyData.canLay0] at hz
    simp only [PyData.canLay0, PyData.canLayAll0, hz, Bool.true_and] at hcl ⊢
    exact hcl
  · simp only [PyData.depth, PyData.depthAll] at hdep ⊢
    omega
  · simp only [narrow, narrowAll, Bool.true_and, List.length_cons] at hnr ⊢
    rw [hnr, Bool.and_true, decide_eq_true_eq]
    omega
  · rw [hp]
    have := hs.1
    simp only [List.length_cons] at this
    omega
  · rw [hp]
    have h3 := hs.2
    simp only [List.length_cons] at h3
    have hk4 : k = 0 ∨ k = 1 ∨ k = 2 ∨ k = 3 := by omega
    rcases hk4 with rfl | rfl | rfl | rfl
    · have := (h a (by simp)).p1
      have := (h a (by simp)).p0
      simp only [bnd] at *
      omega
    · simp only [bnd] at *
      omega
    · simp only [bnd] at *
      omega
    · have := hl.2 rfl
      simp only [bnd] at *
      omega
theorem atI_twoS {r : Int} {a b : Str} (h0 : 0 ≤ r) (h1 : r < 2) : ∃ z, atI [V.str a, V.str b] r = some (.str z) ∧ (z = a ∨ z = b) := by
  have h : r = 0 ∨ r = 1 := by omega
  rcases h with rfl | rfl
  · exact ⟨a, rfl, .inl rfl⟩
  · exact ⟨b, rfl, .inr rfl⟩
theorem fitsD_land {n : Nat} {a : PyData} {r : List PyData} {l p : Int} : fitsD (n + 1) (.tuple (.str "land" :: a :: r)) l p = inRowD l a := by
  simp only [fitsD, if_true]
theorem fitsD_plan {n : Nat} {a : PyData} {r : List PyData} {l p : Int} : fitsD (n + 1) (.tuple (.str "plan" :: a :: r)) l p = inRowD p a := by
  simp only [fitsD, show ¬ ("plan" : Str) = "land" by decide +kernel, if_false, if_true]
theorem fitsD_not {n : Nat} {a : PyData} {r : List PyData} {l p : Int} : fitsD (n + 1) (.tuple (.str "not" :: a :: r)) l p = !fitsD n a l p := by
  simp only [fitsD, show ¬ ("not" : Str) = "land" by decide +kernel, show ¬ ("not" : Str) = "plan" by decide +kernel, if_false, if_true]
theorem fitsD_and {n : Nat} {a : PyData} {r : List PyData} {l p : Int} : fitsD (n + 1) (.tuple (.str "and" :: a :: r)) l p = (a :: r).all fun y => fitsD n y l p := by
  simp only [fitsD, show ¬ ("and" : Str) = "land" by decide +kernel, show ¬ ("and" : Str) = "plan" by decide +kernel, show ¬ ("and" : Str) = "not" by decide +kernel, if_false, if_true]
theorem fitsD_or {n : Nat} {a : PyData} {r : List PyData} {l p : Int} : fitsD (n + 1) (.tuple (.str "or" :: a :: r)) l p = (a :: r).any fun y => fitsD n y l p := by
  simp only [fitsD, show ¬ ("or" : Str) = "land" by decide +kernel, show ¬ ("or" : Str) = "plan" by decide +kernel, show ¬ ("or" : Str) = "not" by decide +kernel, show ¬ ("or" : Str) = "and" by decide +kernel, if_false]
theorem parts_up : ∀ (k : Nat) (d : PyData), partsOf k d ≠ 0 → partsOf (k + 1) d = partsOf k d ∧ ∀ l p, fitsD (k + 1) d l p = fitsD k d l p
  | 0, d, h => absurd rfl h
  | k + 1, d, h => by
    obtain ⟨z, a, r, rfl, hz⟩ := parts_inv h
    rcases hz with ⟨rfl, _⟩ | ⟨rfl, _⟩ | ⟨n1, n2, hg, hys⟩
    · exact ⟨by rw [partsOf_land, partsOf_land], fun l p => by rw [fitsD_land, fitsD_land]⟩
    · exact ⟨by rw [partsOf_plan, partsOf_plan], fun l p => by rw [fitsD_plan, fitsD_plan]⟩
    · have ih := fun y hy => parts_up k y (hys y hy)
      have em : (a :: r).map (partsOf (k + 1)) = (a :: r).map (partsOf k) := List.map_congr_left fun y hy => (ih y hy).1
      refine ⟨by rw [partsOf_more n1 n2, partsOf_more n1 n2, em], fun l p => ?_⟩
      rcases hg with ⟨rfl, rfl⟩ | ⟨rfl | rfl, _⟩
      · rw [fitsD_not, fitsD_not, (ih a (by simp)).2]
      · rw [fitsD_and, fitsD_and, Bool.eq_iff_iff, List.all_eq_true, List.all_eq_true]
        exact ⟨fun z y hy => by rw [← (ih y hy).2]; exact z y hy, fun z y hy => by rw [(ih y hy).2]; exact z y hy⟩
      · rw [fitsD_or, fitsD_or, Bool.eq_iff_iff, List.any_eq_true, List.any_eq_true]
        exact ⟨fun ⟨y, hy, z⟩ => ⟨y, hy, by rw [← (ih y hy).2]; exact z⟩, fun ⟨y, hy, z⟩ => ⟨y, hy, by rw [(ih y hy).2]; exact z⟩⟩
theorem parts_five {k : Nat} {d : PyData} (h : partsOf k d ≠ 0) (hk : k ≤ 5) : partsOf 5 d = partsOf k d ∧ ∀ l p, fitsD 5 d l p = fitsD k d l p := by
  have key : ∀ m j, partsOf j d ≠ 0 → partsOf (j + m) d = partsOf j d ∧ ∀ l p, fitsD (j + m) d l p = fitsD j d l p := by
    intro m
    induction m with
    | zero => exact fun j _ => ⟨rfl, fun _ _ => rfl⟩
    | succ m ih =>
      intro j hj
      obtain ⟨a1, a2⟩ := ih j hj
      have u := parts_up (j + m) d (by rw [a1]; exact hj)
      exact ⟨u.1.trans a1, fun l p => (u.2 l p).trans (a2 l p)⟩
  have := key (5 - k) k h
  rw [show k + (5 - k) = 5 by omega] at this
  exact this
theorem CondG.cond {k : Nat} {d : PyData} (g : CondG k d) (hk : k ≤ 5) : isCond d = true := by
  have e := (parts_five g.ne hk).1
  have h0 := g.p0
  have h1 := g.p1
  have hb : bnd k ≤ 27 := by
    match k with
    | 0 => decide
    | 1 => decide
    | 2 => decide
    | 3 => decide
    | k + 4 => exact Int.le_refl _
  simp only [isCond, e, Bool.and_eq_true, decide_eq_true_eq]
  omega
theorem eqv_kd (a b : Int × Int) : PyData.eqv (kd a) (kd b) = decide (a = b) := by
  obtain ⟨a1, a2⟩ := a
  obtain ⟨b1, b2⟩ := b
  simp only [kd, PyData.eqv, PyData.eqvAll, Bool.and_true, Prod.mk.injEq]
  rw [Bool.eq_iff_iff]
  simp
theorem eqvAll_kd : ∀ l : List (Int × Int), PyData.eqvAll (l.map kd) (l.map kd) = true
  | [] => rfl
  | k :: l => by simp only [List.map_cons, PyData.eqvAll, eqv_kd, eqvAll_kd l, decide_true, Bool.and_self]
theorem kd_lay (k : Int × Int) : (kd k).canLay0 = true := by simp [kd, PyData.canLay0, PyData.canLayAll0]
theorem kd_dep (k : Int × Int) : (kd k).depth ≤ 3 := by
  simp only [kd, PyData.depth, PyData.depthAll]
  omega
theorem shaped_kd (k : Int × Int) : SeqAt.shaped (kd k) = true := by
  have h : decide ((kd k).depth ≤ 64) = true := decide_eq_true (by have := kd_dep k; omega)
  simp only [SeqAt.shaped, kd_lay, h, Bool.and_self]
theorem shaped_kds (l : List (Int × Int)) : SeqAt.shaped (.list (l.map kd)) = true := by
  have h1 : PyData.canLayAll0 (l.map kd) = true := canLayAll_mem fun d hd => by
    obtain ⟨k, _, rfl⟩ := List.mem_map.mp hd
    exact kd_lay k
  have h2 := depthAll_le (m := 3) (ds := l.map kd) fun d hd => by
    obtain ⟨k, _, rfl⟩ := List.mem_map.mp hd
    exact kd_dep k
  have h3 : decide (PyData.depth (.list (l.map kd)) ≤ 64) = true := decide_eq_true (by simp only [PyData.depth]; omega)
  simp only [SeqAt.shaped, PyData.canLay0, h1, h3, Bool.and_self]
theorem mem_kindL {l p : Int} (h0 : 0 ≤ l) (h1 : l ≤ 5) (h2 : 0 ≤ p) (h3 : p ≤ 3) : (l, p) ∈ kindL := by
  show (l, p) ∈ kindsTo 6
  unfold kindsTo
  rw [List.mem_flatMap]
  exact ⟨l.toNat, List.mem_range.mpr (by omega), List.mem_map.mpr ⟨p.toNat, List.mem_range.mpr (by omega), by
    rw [Int.toNat_of_nonneg h0, Int.toNat_of_nonneg h2]⟩⟩
theorem any_kd {f : Int × Int → Bool} {k : Int × Int} {l : List (Int × Int)} (hk : k ∈ l) : (((l.filter f).map kd).any fun z => PyData.eqv z (kd k)) = f k := by
  rw [List.any_map, Bool.eq_iff_iff, List.any_eq_true]
  constructor
  · rintro ⟨x, hx, e⟩
    have e2 : x = k := by
      have : PyData.eqv (kd x) (kd k) = true := e
      rw [eqv_kd] at this
      exact of_decide_eq_true this
    subst e2
    exact (List.mem_filter.mp hx).2
  · intro h
    refine ⟨k, List.mem_filter.mpr ⟨hk, h⟩, ?_⟩
    show PyData.eqv (kd k) (kd k) = true
    rw [eqv_kd]
    exact decide_eq_true rfl
theorem kinds24 : (List.range 24).map (fun (i : Nat) => (((i : Int) / 4, (i : Int) % 4) : Int × Int)) = kindL := by decide +kernel
def isRule (d : PyData) : Bool := match d with
  | .tuple [c, m] => isCond c && isNum m 0 100
  | _ => false
def spIsRule (K : PySem.W.Frag) : Sp := fun vs H Q _ => ∃ (v : V) (d : PyData), vs = [v] ∧ Dp K H v d ∧ okD d = true ∧ ∀ H', Same H H' → Q (.bl (isRule d)) H'
theorem isRule_no {d : PyData} (h : isTupD d = false) : isRule d = false := by
  cases d <;> first | rfl | cases h
theorem isRule_len {ds : List PyData} (h : ds.length ≠ 2) : isRule (.tuple ds) = false := by
  match ds, h with
  | [], _ => rfl
  | [_], _ => rfl
  | [_, _], h => exact absurd rfl h
  | _ :: _ :: _ :: _, _ => rfl
def areRules (d : PyData) : Bool := match d with
  | .tuple ds => decide (ds.length ≤ 6) && ds.all isRule
  | _ => false
def spAreRules (K : PySem.W.Frag) : Sp := fun vs H Q _ => ∃ (v : V) (d : PyData), vs = [v] ∧ Dp K H v d ∧ okD d = true ∧ ∀ H', Same H H' → Q (.bl (areRules d)) H'
theorem areRules_no {d : PyData} (h : isTupD d = false) : areRules d = false := by
  cases d <;> first | rfl | cases h
def spNeedRules (K : PySem.W.Frag) : Sp := fun vs H Q E => ∃ (v : V) (d : PyData), vs = [v] ∧ Dp K H v d ∧ okD d = true ∧ (areRules d = true → ∀ H', Same H H' → Q .non H') ∧ (areRules d = false → ∀ H', Same H H' → E (.ref (He.ga K "BadRules")) none H')
/-- the share of the first rule that holds -/
def shareL : List PyData → Int → Int → Int
  | .tuple [c, .int m] :: r, l, p => if fitsD 5 c l p = true then m else shareL r l p
  | _ :: r, l, p => shareL r l p
  | [], _, _ => 0
def spShareOf (K : PySem.W.Frag) : Sp := fun vs H Q _ => ∃ (v : V) (ds : List PyData) (l p : Int), vs = [v, .int l, .int p] ∧ Dp K H v (.tuple ds) ∧ okD (.tuple ds) = true ∧ areRules (.tuple ds) = true ∧ ∀ H', Same H H' → Q (.int (shareL ds l p)) H'
theorem isRule_inv {d : PyData} (h : isRule d = true) : ∃ (c : PyData) (m : Int), d = .tuple [c, .int m] ∧ isCond c = true ∧ 0 ≤ m ∧ m ≤ 100 := by
  unfold isRule at h
  split at h
  · rename_i c m
    rw [Bool.and_eq_true] at h
    obtain ⟨i, rfl, i0, i1⟩ := isNum_int h.2
    exact ⟨c, i, rfl, h.1, i0, i1⟩
  · cases h
theorem areRules_mem {ds : List PyData} (h : areRules (.tuple ds) = true) {d : PyData} (hd : d ∈ ds) : isRule d = true := by
  simp only [areRules, Bool.and_eq_true] at h
  exact List.all_eq_true.mp h.2 d hd
theorem areRules_len {ds : List PyData} (h : areRules (.tuple ds) = true) : ds.length ≤ 6 := by
  simp only [areRules, Bool.and_eq_true, decide_eq_true_eq] at h
  exact h.1
theorem areRules_inv {d : PyData} (h : areRules d = true) : ∃ ds, d = .tuple ds := by
  cases d <;> first | exact ⟨_, rfl⟩ | cases h
theorem shareL_drop {l p : Int} : ∀ {ds : List PyData} {i : Nat} {c : PyData} {m : Int}, ds[i]? = some (.tuple [c, .int m]) → shareL (ds.drop i) l p = if fitsD 5 c l p = true then m else shareL (ds.drop (i + 1)) l p
  | [], i, c, m, h => by simp at h
  | d :: ds, 0, c, m, h => by
    simp at h
    subst h
    rfl
  | d :: ds, i + 1, c, m, h => by
    have := shareL_drop (l := l) (p := p) (ds := ds) (i := i) (c := c) (m := m) (by simpa using h)
    simpa using this
theorem dp_pair {K : PySem.W.Frag} {H : Hp} {v : V} {c : PyData} {m : Int} (h : Dp K H v (.tuple [c, .int m])) : ∃ a u, v = .ref a ∧ SqT K H a [u, .int m] ∧ Dp K H u c := by
  obtain ⟨a, xs, rfl, hs, hx⟩ := dp_tuple h
  cases hx with
  | cons h1 h2 =>
    cases h2 with
    | cons h3 h4 =>
      cases h3
      cases h4
      exact ⟨a, _, rfl, hs, h1⟩
def shareD (d : PyData) (l p : Int) : Int := match d with
  | .tuple ds => shareL ds l p
  | _ => 0
def spShare (K : PySem.W.Frag) : Sp := fun vs H Q E => ∃ (v u : V) (d e : PyData), vs = [v, u] ∧ Dp K H v d ∧ Dp K H u e ∧ okD d = true ∧ (areRules d = true → isUser e = true → ∀ H', Same H H' → Q (.int (shareD d (landD e) (planD e))) H') ∧
  (areRules d = false → ∀ H', Same H H' → E (.ref (He.ga K "BadRules")) none H') ∧ (areRules d = true → isUser e = false → ∀ H', Same H H' → E (.ref (He.ga K "BadUser")) none H')
def spLets (K : PySem.W.Frag) : Sp := fun vs H Q _ => ∃ (v w' u : V) (ds : List PyData) (s t n l p : Int), vs = [v, w', u] ∧ Dp K H v (.tuple ds) ∧ okD (.tuple ds) = true ∧ areRules (.tuple ds) = true ∧ Dp K H w' (.tuple [.int s, .int t]) ∧ 0 ≤ s ∧ s ≤ 99 ∧ Dp K H u (.tuple [.int n, .int l, .int p]) ∧
  ∀ H', Same H H' → Q (.bl (decide ((n * s + t) % 100 < shareL ds l p))) H'
def letsD (d dl e : PyData) : Bool := decide (placeD e dl < shareD d (landD e) (planD e))
def spIsLet (K : PySem.W.Frag) : Sp := fun vs H Q E => ∃ (v w' u : V) (d dl e : PyData), vs = [v, w', u] ∧ Dp K H v d ∧ Dp K H w' dl ∧ Dp K H u e ∧ okD d = true ∧ (areRules d = true → isDeal dl = true → isUser e = true → ∀ H', Same H H' → Q (.bl (letsD d dl e)) H') ∧
  (areRules d = false → ∀ H', Same H H' → E (.ref (He.ga K "BadRules")) none H') ∧ (areRules d = true → isDeal dl = false → ∀ H', Same H H' → E (.ref (He.ga K "BadDeal")) none H') ∧ (areRules d = true → isDeal dl = true → isUser e = false → ∀ H', Same H H' → E (.ref (He.ga K "BadUser")) none H')
/-- a drawn rule -/
def RuleG (d : PyData) : Prop := ∃ (c : PyData) (m : Int) (k : Nat), d = .tuple [c, .int m] ∧ k ≤ 4 ∧ CondG k c ∧ 0 ≤ m ∧ m ≤ 100
structure RulesG (ds : List PyData) : Prop where
  len : ds.length ≤ 4
  all : ∀ d ∈ ds, RuleG d
def spLRules (K : PySem.W.Frag) : Sp := fun vs H Q _ => ∃ (a : Addr) (k : Nat), vs = [.ref a, .int (k : Nat)] ∧ 1 ≤ k ∧ k ≤ 4 ∧ Dice H a ∧ ∀ v ds H', But a H H' → Dp K H' v (.tuple ds) → RulesG ds → Q v H'
theorem RuleG.imm {d : PyData} (g : RuleG d) : imm d = true := by
  obtain ⟨c, m, k, rfl, hk, hc, _⟩ := g
  simp only [RG.imm, immAll, hc.im, Bool.and_self]
theorem RuleG.rule {d : PyData} (g : RuleG d) : isRule d = true := by
  obtain ⟨c, m, k, rfl, hk, hc, m0, m1⟩ := g
  simp only [isRule, hc.cond (by omega), isNum, decide_eq_true m0, decide_eq_true m1, Bool.and_self]
theorem RuleG.lay {d : PyData} (g : RuleG d) : d.canLay0 = true := by
  obtain ⟨c, m, k, rfl, hk, hc, _⟩ := g
  simp only [PyData.canLay0, PyData.canLayAll0, hc.cl, Bool.and_self]
theorem RuleG.dep {d : PyData} (g : RuleG d) : d.depth ≤ 45 := by
  obtain ⟨c, m, k, rfl, hk, hc, _⟩ := g
  have := hc.dp
  simp only [PyData.depth, PyData.depthAll]
  omega
theorem RuleG.nar {d : PyData} (g : RuleG d) : narrow d = true := by
  obtain ⟨c, m, k, rfl, hk, hc, _⟩ := g
  simp only [narrow, narrowAll, hc.nr, List.length_cons, List.length_nil, Bool.and_true]
  rfl
theorem RulesG.imm {ds : List PyData} (g : RulesG ds) : immAll ds = true := immAll_mem fun d hd => (g.all d hd).imm
theorem RulesG.ok {ds : List PyData} (g : RulesG ds) : okD (.tuple ds) = true := by
  have h1 := canLayAll_mem (ds := ds) fun d hd => (g.all d hd).lay
  have h2 := depthAll_le (m := 45) (ds := ds) fun d hd => (g.all d hd).dep
  have h3 := narrowAll_of (ds := ds) fun d hd => (g.all d hd).nar
  have h4 : decide (PyData.depth (.tuple ds) ≤ 64) = true := decide_eq_true (by simp only [PyData.depth]; omega)
  have h5 : decide (ds.length ≤ 1000) = true := decide_eq_true (by have := g.len; omega)
  simp only [okD, SeqAt.shaped, PyData.canLay0, h1, h4, narrow, h3, h5, Bool.and_self]
theorem RulesG.rules {ds : List PyData} (g : RulesG ds) : areRules (.tuple ds) = true := by
  have h5 : decide (ds.length ≤ 6) = true := decide_eq_true (by have := g.len; omega)
  have h6 : ds.all isRule = true := List.all_eq_true.mpr fun d hd => (g.all d hd).rule
  simp only [areRules, h5, h6, Bool.and_self]
theorem shareL_bounds {l p : Int} : ∀ {ds : List PyData}, (∀ d ∈ ds, RuleG d) → 0 ≤ shareL ds l p ∧ shareL ds l p ≤ 100
  | [], _ => by simp [shareL]
  | d :: ds, h => by
    obtain ⟨c, m, k, rfl, _, _, m0, m1⟩ := h d (by simp)
    have ih := shareL_bounds (l := l) (p := p) (ds := ds) fun e he => h e (by simp [he])
    simp only [shareL]
    split
    · exact ⟨m0, m1⟩
    · exact ih
theorem atI_sixI {r a b c d e f : Int} (h0 : 0 ≤ r) (h1 : r < 6) : ∃ z, atI [V.int a, V.int b, V.int c, V.int d, V.int e, V.int f] r = some (.int z) ∧ (z = a ∨ z = b ∨ z = c ∨ z = d ∨ z = e ∨ z = f) := by
  have h : r = 0 ∨ r = 1 ∨ r = 2 ∨ r = 3 ∨ r = 4 ∨ r = 5 := by omega
  rcases h with rfl | rfl | rfl | rfl | rfl | rfl
  · exact ⟨a, rfl, by simp⟩
  · exact ⟨b, rfl, by simp⟩
  · exact ⟨c, rfl, by simp⟩
  · exact ⟨d, rfl, by simp⟩
  · exact ⟨e, rfl, by simp⟩
  · exact ⟨f, rfl, by simp⟩
/-- the same conditions, each share as great or greater -/
inductive Wider : List PyData → List PyData → Prop
  | nil : Wider [] []
  | cons {c : PyData} {m m' : Int} {ds es : List PyData} (h : m ≤ m') (t : Wider ds es) : Wider (.tuple [c, .int m] :: ds) (.tuple [c, .int m'] :: es)
theorem Wider.share {l p : Int} : ∀ {ds es : List PyData}, Wider ds es → shareL ds l p ≤ shareL es l p
  | _, _, .nil => Int.le_refl _
  | _, _, .cons (c := c) h t => by
    simp only [shareL]
    split
    · exact h
    · exact t.share
theorem Wider.snoc {c : PyData} {m m' : Int} : ∀ {ds es : List PyData}, Wider ds es → m ≤ m' → Wider (ds ++ [.tuple [c, .int m]]) (es ++ [.tuple [c, .int m']])
  | _, _, .nil, h => .cons h .nil
  | _, _, .cons h' t, h => .cons h' (t.snoc h)
def spWider (K : PySem.W.Frag) : Sp := fun vs H Q _ => ∃ (v : V) (a : Addr) (ds : List PyData), vs = [v, .ref a] ∧ Dice H a ∧ Dp K H v (.tuple ds) ∧ RulesG ds ∧ ∀ v' es H', But a H H' → Dp K H' v' (.tuple es) → RulesG es → Wider ds es → Q v' H'
/-- a name: 1 to 8 small letters -/
def lettersL : List Nat := ("abcdefghijklmnopqrstuvwxyz" : Str).cps.toList
def isName : PyData → Bool
  | .str z => decide (1 ≤ z.length) && decide (z.length ≤ 8) && z.cps.toList.all fun c => decide (c ∈ lettersL)
  | _ => false
/-- a text of a fit length, or no text -/
def fitS : PyData → Prop
  | .str z => z.length ≤ 100000
  | _ => True
def spIsName (K : PySem.W.Frag) : Sp := fun vs H Q _ => ∃ (v : V) (d : PyData), vs = [v] ∧ Dp K H v d ∧ fitS d ∧ ∀ H', Same H H' → Q (.bl (isName d)) H'
theorem isName_no {d : PyData} (h : isStrD d = false) : isName d = false := by
  cases d <;> first | rfl | cases h
theorem isName_str {d : PyData} (h : isName d = true) : ∃ z, d = .str z := by
  cases d <;> first | exact ⟨_, rfl⟩ | cases h
/-- the order of texts -/
def leS (x y : Str) : Prop := x.cps.toList ≤ y.cps.toList
theorem leS_of {x y : Str} (h : ltCps y.cps.toList x.cps.toList = false) : leS x y := by
  rw [ltCps_eq] at h
  exact of_decide_eq_false h
theorem leS_trans {x y z : Str} (a : leS x y) (b : leS y z) : leS x z := List.le_trans a b
theorem leS_anti {x y : Str} (a : leS x y) (b : leS y x) : x = y := by
  have e := List.le_antisymm a b
  cases x
  cases y
  congr 1
  exact Array.toList_inj.mp e
theorem rising_pw : ∀ (p : Str) (l : List Str), risingS p l = true → (p :: l).Pairwise leS
  | p, [], _ => by simp
  | p, x :: r, h => by
    simp only [risingS, Bool.and_eq_true, Bool.not_eq_true'] at h
    have ih := rising_pw x r h.2
    have h1 := leS_of h.1
    rw [List.pairwise_cons]
    refine ⟨fun y hy => ?_, ih⟩
    rcases List.mem_cons.mp hy with rfl | hy
    · exact h1
    · exact leS_trans h1 ((List.pairwise_cons.mp ih).1 y hy)
theorem sorted_pw {l : List Str} (h : sortedS l = true) : l.Pairwise leS := by
  cases l with
  | nil => exact .nil
  | cons x r => exact rising_pw x r h
theorem pw_uniq : ∀ {a b : List Str}, a.Pairwise leS → b.Pairwise leS → a.Nodup → b.Nodup → (∀ z, z ∈ a ↔ z ∈ b) → a = b
  | [], [], _, _, _, _, _ => rfl
  | [], y :: b, _, _, _, _, h => absurd ((h y).mpr (by simp)) (by simp)
  | x :: a, [], _, _, _, _, h => absurd ((h x).mp (by simp)) (by simp)
  | x :: a, y :: b, ha, hb, na, nb, h => by
    rw [List.pairwise_cons] at ha hb
    rw [List.nodup_cons] at na nb
    have e : x = y := by
      rcases List.mem_cons.mp ((h x).mp (by simp)) with e | hx
      · exact e
      · rcases List.mem_cons.mp ((h y).mpr (by simp)) with e | hy
        · exact e.symm
        · exact leS_anti (ha.1 y hy) (hb.1 x hx)
    subst e
    rw [pw_uniq ha.2 hb.2 na.2 nb.2 fun z => ?_]
    constructor
    · intro hz
      rcases List.mem_cons.mp ((h z).mp (by simp [hz])) with e | hz'
      · subst e
        exact absurd hz na.1
      · exact hz'
    · intro hz
      rcases List.mem_cons.mp ((h z).mpr (by simp [hz])) with e | hz'
      · subst e
        exact absurd hz nb.1
      · exact hz'
theorem sorted_uniq {a b : List Str} (ha : sortedS a = true) (hb : sortedS b = true) (na : a.Nodup) (nb : b.Nodup) (h : ∀ z, z ∈ a ↔ z ∈ b) : a = b := pw_uniq (sorted_pw ha) (sorted_pw hb) na nb h
def spNeedName (K : PySem.W.Frag) : Sp := fun vs H Q E => ∃ (v : V) (d : PyData), vs = [v] ∧ Dp K H v d ∧ fitS d ∧ (isName d = true → ∀ H', Same H H' → Q .non H') ∧ (isName d = false → ∀ H', Same H H' → E (.ref (He.ga K "BadName")) none H')
def names5 : List Str := ["ab", "cd", "ef", "gh", "ij"]
theorem names5_ok : ∀ z ∈ names5, isName (.str z) = true := by decide +kernel
theorem names5_len : ∀ z ∈ names5, z.length ≤ 8 := by decide +kernel
def spLName (K : PySem.W.Frag) : Sp := fun vs H Q _ => ∃ a : Addr, vs = [.ref a] ∧ Dice H a ∧ ∀ z H', But a H H' → z ∈ names5 → Q (.str z) H'
/-! boards: switches by name -/
structure BRow where
  deal : PyData
  rules : PyData
  needs : List Str
  dim : Bool
abbrev Tab : Type := List (Str × BRow)
def BRow.dat (r : BRow) : PyData := .tuple [r.deal, r.rules, .tuple (r.needs.map PyData.str), .bool r.dim]
def namesT (t : Tab) : List Str := t.map (·.1)
def rowOf (t : Tab) (n : Str) : Option BRow := (t.find? fun p => decide (p.1 = n)).map (·.2)
def putT (t : Tab) (n : Str) (r : BRow) : Tab := if (t.any fun p => decide (p.1 = n)) = true then t.map (fun p => if p.1 = n then (p.1, r) else p) else t ++ [(n, r)]
def dropT (t : Tab) (n : Str) : Tab := t.filter fun p => decide (p.1 ≠ n)
section
variable {t : Tab} {n m : Str} {r s : BRow}
theorem rowOf_nil : rowOf [] n = none := rfl
theorem rowOf_cons {p : Str × BRow} : rowOf (p :: t) n = if p.1 = n then some p.2 else rowOf t n := by
  unfold rowOf
  rw [List.find?_cons]
  by_cases h : p.1 = n
  · simp [h]
  · simp [h]
theorem any_name : (t.any fun p => decide (p.1 = n)) = decide (n ∈ namesT t) := by
  unfold namesT
  rw [Bool.eq_iff_iff, List.any_eq_true, decide_eq_true_eq, List.mem_map]
  constructor
  · rintro ⟨p, hp, e⟩
    exact ⟨p, hp, of_decide_eq_true e⟩
  · rintro ⟨p, hp, e⟩
    exact ⟨p, hp, decide_eq_true e⟩
theorem rowOf_none : rowOf t n = none ↔ n ∉ namesT t := by
  induction t with
  | nil => simp [rowOf_nil, namesT]
  | cons p t ih =>
    rw [rowOf_cons]
    unfold namesT at ih ⊢
    rw [List.map_cons, List.mem_cons]
    by_cases h : p.1 = n
    · simp [h]
    · rw [if_neg h, ih]
      simp [Ne.symm h]
theorem rowOf_some : (∃ r, rowOf t n = some r) ↔ n ∈ namesT t := by
  constructor
  · rintro ⟨r, h⟩
    by_cases hn : n ∈ namesT t
    · exact hn
    · rw [rowOf_none.mpr hn] at h
      cases h
  · intro h
    cases e : rowOf t n with
    | some r => exact ⟨r, rfl⟩
    | none => exact absurd h (rowOf_none.mp e)
theorem rowOf_mem (h : rowOf t n = some r) : n ∈ namesT t := rowOf_some.mp ⟨r, h⟩
theorem names_put : namesT (putT t n r) = if n ∈ namesT t then namesT t else namesT t ++ [n] := by
  unfold putT
  rw [any_name]
  by_cases h : n ∈ namesT t
  · rw [if_pos (decide_eq_true h), if_pos h]
    unfold namesT
    rw [List.map_map]
    apply List.map_congr_left
    intro p _
    simp only [Function.comp]
    split <;> rfl
  · rw [if_neg (by simpa using h), if_neg h]
    unfold namesT
    rw [List.map_append]
    rfl
theorem rowOf_map (t : Tab) (n m : Str) (r : BRow) : rowOf (t.map fun p => if p.1 = n then (p.1, r) else p) m = if m = n then (if n ∈ namesT t then some r else none) else rowOf t m := by
  induction t with
  | nil => simp [rowOf_nil, namesT]
  | cons p t ih =>
    rw [List.map_cons, rowOf_cons, rowOf_cons, ih]
    have e : n ∈ namesT (p :: t) ↔ n = p.1 ∨ n ∈ namesT t := by
      unfold namesT
      rw [List.map_cons, List.mem_cons]
    by_cases hm : m = n
    · subst hm
      rw [if_pos rfl, if_pos rfl]
      by_cases h : p.1 = m
      · rw [if_pos h, if_pos (show (p.1, r).1 = m from h), if_pos (e.mpr (.inl h.symm))]
      · rw [if_neg h, if_neg h]
        by_cases q : m ∈ namesT t
        · rw [if_pos q, if_pos (e.mpr (.inr q))]
        · rw [if_neg q, if_neg (fun z => (e.mp z).elim (fun w => h w.symm) q)]
    · rw [if_neg hm, if_neg hm]
      by_cases h : p.1 = n
      · rw [if_pos h, if_neg (show ¬ (p.1, r).1 = m from fun z => hm (z.symm.trans h)), if_neg (fun z => hm (z.symm.trans h))]
      · rw [if_neg h]
theorem rowOf_app : rowOf (t ++ [(n, r)]) m = match rowOf t m with
    | some s => some s
    | none => if n = m then some r else none := by
  induction t with
  | nil =>
    rw [List.nil_append, rowOf_cons, rowOf_nil]
  | cons p t ih =>
    rw [List.cons_append, rowOf_cons, rowOf_cons, ih]
    by_cases h : p.1 = m
    · simp [h]
    · simp [h]
theorem rowOf_put : rowOf (putT t n r) m = if m = n then some r else rowOf t m := by
  unfold putT
  rw [any_name]
  by_cases h : n ∈ namesT t
  · rw [if_pos (decide_eq_true h), rowOf_map]
    simp [h]
  · rw [if_neg (by simpa using h), rowOf_app]
    by_cases hm : m = n
    · subst hm
      rw [rowOf_none.mpr h]
    · rw [if_neg hm]
      cases rowOf t m with
      | some s => rfl
      | none => simp [Ne.symm hm]
theorem put_len : (putT t n r).length = if n ∈ namesT t then t.length else t.length + 1 := by
  unfold putT
  rw [any_name]
  by_cases h : n ∈ namesT t
  · rw [if_pos (decide_eq_true h), if_pos h, List.length_map]
  · rw [if_neg (by simpa using h), if_neg h]
    simp
theorem names_drop : namesT (dropT t n) = (namesT t).filter fun x => decide (x ≠ n) := by
  unfold namesT dropT
  rw [List.filter_map]
  rfl
theorem rowOf_drop : rowOf (dropT t n) m = if m = n then none else rowOf t m := by
  unfold dropT
  induction t with
  | nil => simp [rowOf_nil]
  | cons p t ih =>
    rw [List.filter_cons, rowOf_cons]
    by_cases h : p.1 = n
    · have e : decide (p.1 ≠ n) = false := by simp [h]
      rw [e, if_neg (by simp), ih]
      by_cases hm : m = n
      · simp [hm]
      · rw [if_neg hm, if_neg hm, if_neg (by rw [h]; exact Ne.symm hm)]
    · have e : decide (p.1 ≠ n) = true := by simp [h]
      rw [e, if_pos rfl, rowOf_cons, ih]
      by_cases hm : m = n
      · subst hm
        rw [if_neg h, if_pos rfl, if_pos rfl]
      · rw [if_neg hm, if_neg hm]
theorem len_names : (namesT t).length = t.length := by
  unfold namesT
  rw [List.length_map]
end
/-- n needs x, in the end -/
inductive Rch (t : Tab) : Str → Str → Prop
  | refl (n : Str) : Rch t n n
  | step {n m x : Str} {r : BRow} (h : rowOf t n = some r) (hm : m ∈ r.needs) (tl : Rch t m x) : Rch t n x
theorem Rch.trans {t : Tab} {a b c : Str} (x : Rch t a b) (y : Rch t b c) : Rch t a c := by
  induction x with
  | refl n => exact y
  | step h hm _ ih => exact .step h hm (ih y)
theorem Rch.one {t : Tab} {a b : Str} {r : BRow} (h : rowOf t a = some r) (hm : b ∈ r.needs) : Rch t a b := .step h hm (.refl b)
/-- a table as it may be -/
structure RowOk (t : Tab) (r : BRow) : Prop where
  deal : isDeal r.deal = true
  ok : okD r.rules = true
  rules : areRules r.rules = true
  im : imm r.rules = true
  nd : r.needs.Nodup
  srt : sortedS r.needs = true
  mem : ∀ m ∈ r.needs, m ∈ namesT t
structure TabOk (t : Tab) : Prop where
  nd : (namesT t).Nodup
  nm : ∀ n ∈ namesT t, isName (.str n) = true
  len : t.length ≤ 12
  row : ∀ n r, rowOf t n = some r → RowOk t r
  acy : ∀ n r m, rowOf t n = some r → m ∈ r.needs → ¬ Rch t m n
theorem deal_imm {d : PyData} (h : isDeal d = true) : imm d = true := by
  obtain ⟨s, t, rfl, _⟩ := isDeal_is h
  rfl
theorem imm_strs : ∀ l : List Str, immAll (l.map PyData.str) = true
  | [] => rfl
  | x :: l => by simp [immAll, imm, imm_strs l]
theorem RowOk.imm {t : Tab} {r : BRow} (h : RowOk t r) : imm r.dat = true := by
  unfold BRow.dat
  simp only [RG.imm, immAll, deal_imm h.deal, h.im, imm_strs, Bool.and_self]
theorem rowOf_of_mem : ∀ {t : Tab} {p : Str × BRow}, (namesT t).Nodup → p ∈ t → rowOf t p.1 = some p.2
  | q :: t, p, nd, hp => by
    rw [rowOf_cons]
    unfold namesT at nd
    rw [List.map_cons, List.nodup_cons] at nd
    rcases List.mem_cons.mp hp with e | hp
    · rw [e, if_pos rfl]
    · rw [if_neg (fun z => nd.1 (by rw [z]; exact List.mem_map.mpr ⟨p, hp, rfl⟩))]
      exact rowOf_of_mem nd.2 hp
theorem TabOk.imm {t : Tab} (h : TabOk t) : ∀ p ∈ t, imm p.2.dat = true := fun p hp => (h.row p.1 p.2 (rowOf_of_mem h.nd hp)).imm
theorem tab_nil : TabOk [] := ⟨by simp [namesT], by simp [namesT], by simp, fun n r h => by simp [rowOf_nil] at h, fun n r m h => by simp [rowOf_nil] at h⟩
section
variable {t : Tab} {z : Str} {r r0 : BRow}
theorem names_in (h : z ∈ namesT t) : namesT (putT t z r) = namesT t := by rw [names_put, if_pos h]
theorem RowOk.of {t2 : Tab} (h : RowOk t r) (s : ∀ m ∈ namesT t, m ∈ namesT t2) : RowOk t2 r := ⟨h.deal, h.ok, h.rules, h.im, h.nd, h.srt, fun m hm => s m (h.mem m hm)⟩
/-- other rules, or dark: who needs whom stays -/
theorem rch_same (h0 : rowOf t z = some r0) (hn : r.needs = r0.needs) {a b : Str} (p : Rch (putT t z r) a b) : Rch t a b := by
  induction p with
  | refl n => exact .refl n
  | @step n m x s h hm tl ih =>
    rw [rowOf_put] at h
    by_cases e : n = z
    · rw [if_pos e] at h
      cases h
      rw [e]
      exact .step h0 (by rw [← hn]; exact hm) ih
    · rw [if_neg e] at h
      exact .step h hm ih
theorem TabOk.same (h : TabOk t) (h0 : rowOf t z = some r0) (hr : RowOk t r) (hn : r.needs = r0.needs) : TabOk (putT t z r) := by
  have hz := rowOf_mem h0
  have nn := names_in (r := r) hz
  refine ⟨by rw [nn]; exact h.nd, by rw [nn]; exact h.nm, by rw [put_len, if_pos hz]; exact h.len, fun n s e => ?_, fun n s m e hm p => ?_⟩
  · rw [rowOf_put] at e
    have hs : ∀ m ∈ namesT t, m ∈ namesT (putT t z r) := fun m hm => by rw [nn]; exact hm
    by_cases en : n = z
    · rw [if_pos en] at e
      cases e
      exact hr.of hs
    · rw [if_neg en] at e
      exact (h.row n s e).of hs
  · have p2 := rch_same h0 hn p
    rw [rowOf_put] at e
    by_cases en : n = z
    · rw [if_pos en] at e
      cases e
      subst en
      exact h.acy n r0 m h0 (by rw [← hn]; exact hm) p2
    · rw [if_neg en] at e
      exact h.acy n s m e hm p2
/-- a new switch: it needs nothing, nobody needs it -/
theorem rch_new (h : TabOk t) (hz : z ∉ namesT t) (hn : r.needs = []) {a b : Str} (p : Rch (putT t z r) a b) : Rch t a b := by
  induction p with
  | refl n => exact .refl n
  | @step n m x s h hm tl ih =>
    rw [rowOf_put] at h
    by_cases e : n = z
    · rw [if_pos e] at h
      cases h
      rw [hn] at hm
      cases hm
    · rw [if_neg e] at h
      exact .step h hm ih
theorem TabOk.new (h : TabOk t) (hz : z ∉ namesT t) (hl : t.length < 12) (hm : isName (.str z) = true) (hr : RowOk t r) (hn : r.needs = []) : TabOk (putT t z r) := by
  have nn : namesT (putT t z r) = namesT t ++ [z] := by rw [names_put, if_neg hz]
  have hs : ∀ m ∈ namesT t, m ∈ namesT (putT t z r) := fun m hm => by rw [nn]; exact List.mem_append_left _ hm
  refine ⟨?_, fun n hn => ?_, by rw [put_len, if_neg hz]; omega, fun n s e => ?_, fun n s m e hm p => ?_⟩
  · rw [nn, List.nodup_append]
    refine ⟨h.nd, by simp, fun a ha b hb => ?_⟩
    rw [List.mem_singleton.mp hb]
    exact fun e => hz (e ▸ ha)
  · rw [nn] at hn
    rcases List.mem_append.mp hn with hn | hn
    · exact h.nm n hn
    · rw [List.mem_singleton.mp hn]
      exact hm
  · rw [rowOf_put] at e
    by_cases en : n = z
    · rw [if_pos en] at e
      cases e
      exact hr.of hs
    · rw [if_neg en] at e
      exact (h.row n s e).of hs
  · have p := rch_new h hz hn p
    rw [rowOf_put] at e
    by_cases en : n = z
    · rw [if_pos en] at e
      cases e
      rw [hn] at hm
      cases hm
    · rw [if_neg en] at e
      exact h.acy n s m e hm p
/-- other needs -/
theorem rch_need (hz : ∀ m ∈ r.needs, ¬ Rch t m z) {a b : Str} (p : Rch (putT t z r) a b) : Rch t a b ∨ (Rch t a z ∧ ∃ m ∈ r.needs, Rch t m b) := by
  induction p with
  | refl n => exact .inl (.refl n)
  | @step n m x s h hm tl ih =>
    rw [rowOf_put] at h
    by_cases e : n = z
    · rw [if_pos e] at h
      cases h
      rcases ih with ih | ⟨ih, _⟩
      · exact .inr ⟨by rw [e]; exact .refl z, m, hm, ih⟩
      · exact absurd ih (hz m hm)
    · rw [if_neg e] at h
      rcases ih with ih | ⟨i1, i2⟩
      · exact .inl (.step h hm ih)
      · exact .inr ⟨.step h hm i1, i2⟩
theorem TabOk.need (h : TabOk t) (h0 : rowOf t z = some r0) (hr : RowOk t r) (hz : ∀ m ∈ r.needs, ¬ Rch t m z) : TabOk (putT t z r) := by
  have hzm := rowOf_mem h0
  have nn := names_in (r := r) hzm
  refine ⟨by rw [nn]; exact h.nd, by rw [nn]; exact h.nm, by rw [put_len, if_pos hzm]; exact h.len, fun n s e => ?_, fun n s m e hm p => ?_⟩
  · rw [rowOf_put] at e
    have hs : ∀ m ∈ namesT t, m ∈ namesT (putT t z r) := fun m hm => by rw [nn]; exact hm
    by_cases en : n = z
    · rw [if_pos en] at e
      cases e
      exact hr.of hs
    · rw [if_neg en] at e
      exact (h.row n s e).of hs
  · rw [rowOf_put] at e
    have p2 := rch_need hz p
    by_cases en : n = z
    · rw [if_pos en] at e
      cases e
      subst en
      rcases p2 with p2 | ⟨p2, _⟩
      · exact hz m hm p2
      · exact hz m hm p2
    · rw [if_neg en] at e
      rcases p2 with p2 | ⟨p2, x, hx, p3⟩
      · exact h.acy n s m e hm p2
      · exact hz x hx (p3.trans (.step e hm p2))
/-- a switch goes that nobody needs -/
theorem rch_drop {a b : Str} (p : Rch (dropT t z) a b) : Rch t a b := by
  induction p with
  | refl n => exact .refl n
  | @step n m x s h hm tl ih =>
    rw [rowOf_drop] at h
    by_cases e : n = z
    · rw [if_pos e] at h
      cases h
    · rw [if_neg e] at h
      exact .step h hm ih
theorem TabOk.drop (h : TabOk t) (hz : ∀ n s, rowOf t n = some s → z ∉ s.needs) : TabOk (dropT t z) := by
  have nn := names_drop (t := t) (n := z)
  refine ⟨by rw [nn]; exact h.nd.filter _, fun n hn => ?_, ?_, fun n s e => ?_, fun n s m e hm p => ?_⟩
  · rw [nn] at hn
    exact h.nm n (List.mem_filter.mp hn).1
  · unfold dropT
    exact Nat.le_trans (List.length_filter_le _ _) h.len
  · rw [rowOf_drop] at e
    by_cases en : n = z
    · rw [if_pos en] at e
      cases e
    · rw [if_neg en] at e
      have q := h.row n s e
      refine ⟨q.deal, q.ok, q.rules, q.im, q.nd, q.srt, fun m hm => ?_⟩
      rw [nn]
      exact List.mem_filter.mpr ⟨q.mem m hm, decide_eq_true fun z' => hz n s e (z' ▸ hm)⟩
  · rw [rowOf_drop] at e
    by_cases en : n = z
    · rw [if_pos en] at e
      cases e
    · rw [if_neg en] at e
      exact h.acy n s m e hm (rch_drop p)
end
/-! how deep a switch goes -/
open Classical in
noncomputable def rkT (t : Tab) (n : Str) : Nat := (namesT t).countP fun x => decide (Rch t n x)
theorem countP_lt {α : Type} (p q : α → Bool) : ∀ {l : List α} {a : α}, (∀ x, p x = true → q x = true) → a ∈ l → p a = false → q a = true → l.countP p < l.countP q
  | x :: l, a, h, ha, hp, hq => by
    have hle : l.countP p ≤ l.countP q := List.countP_mono_left fun y _ e => h y e
    rw [List.countP_cons, List.countP_cons]
    rcases List.mem_cons.mp ha with e | ha
    · subst e
      rw [hp, hq]
      simp
      omega
    · have ih := countP_lt p q h ha hp hq
      cases e : p x with
      | true =>
        rw [h x e]
        simp
        omega
      | false =>
        simp
        omega
open Classical in
theorem rk_lt {t : Tab} {n m : Str} {r : BRow} (h : TabOk t) (e : rowOf t n = some r) (hm : m ∈ r.needs) : rkT t m < rkT t n := by
  unfold rkT
  refine countP_lt _ _ (fun x hx => ?_) (rowOf_mem e) ?_ ?_
  · exact decide_eq_true (.step e hm (of_decide_eq_true hx))
  · exact decide_eq_false (h.acy n r m e hm)
  · exact decide_eq_true (.refl n)
theorem rk_le {t : Tab} {n : Str} (h : TabOk t) : rkT t n ≤ 12 := by
  unfold rkT
  refine Nat.le_trans List.countP_le_length ?_
  rw [len_names]
  exact h.len
/-- whether a user has a switch, by so many steps -/
def openF (t : Tab) (u : PyData) : Nat → Str → Bool
  | 0, _ => false
  | k + 1, n => match rowOf t n with
    | none => false
    | some r => !r.dim && (letsD r.rules r.deal u && r.needs.all (openF t u k))
def openT (t : Tab) (u : PyData) (n : Str) : Bool := openF t u 13 n
theorem openF_eq {t : Tab} {u : PyData} (h : TabOk t) : ∀ {j k : Nat} {n : Str}, rkT t n < j → rkT t n < k → openF t u j n = openF t u k n
  | 0, _, _, a, _ => absurd a (by omega)
  | _ + 1, 0, _, _, b => absurd b (by omega)
  | j + 1, k + 1, n, a, b => by
    unfold openF
    cases e : rowOf t n with
    | none => rfl
    | some r =>
      have : r.needs.all (openF t u j) = r.needs.all (openF t u k) := by
        rw [Bool.eq_iff_iff, List.all_eq_true, List.all_eq_true]
        have key : ∀ m ∈ r.needs, openF t u j m = openF t u k m := fun m hm => by
          have := rk_lt h e hm
          exact openF_eq h (by omega) (by omega)
        exact ⟨fun q m hm => by rw [← key m hm]; exact q m hm, fun q m hm => by rw [key m hm]; exact q m hm⟩
      simp only [this]
theorem openT_eq {t : Tab} {u : PyData} {k : Nat} {n : Str} (h : TabOk t) (hk : rkT t n < k) : openF t u k n = openT t u n := openF_eq h hk (by have := rk_le (n := n) h; omega)
theorem openT_row {t : Tab} {u : PyData} {n : Str} {r : BRow} (h : TabOk t) (e : rowOf t n = some r) : openT t u n = (!r.dim && (letsD r.rules r.deal u && r.needs.all (openT t u))) := by
  have e1 : openT t u n = openF t u 14 n := (openF_eq h (by have := rk_le (n := n) h; omega) (by have := rk_le (n := n) h; omega))
  rw [e1]
  show (match rowOf t n with
    | none => false
    | some r => !r.dim && (letsD r.rules r.deal u && r.needs.all (openF t u 13))) = _
  rw [e]
  rfl
/-! tables in the heap -/
inductive TabR (K : PySem.W.Frag) (H : Hp) : List (Key × V) → Tab → Prop
  | nil : TabR K H [] []
  | cons {kvs : List (Key × V)} {t : Tab} {n : Str} {v : V} {r : BRow} (h : Dp K H v r.dat) (tl : TabR K H kvs t) : TabR K H ((.inr n, v) :: kvs) ((n, r) :: t)
section
variable {K : PySem.W.Frag} {H H1 : Hp} {kvs : List (Key × V)} {t : Tab} {n : Str} {v : V} {r : BRow}
theorem TabR.keys (h : TabR K H kvs t) : kvs.map (·.1) = (namesT t).map Sum.inr := by
  induction h with
  | nil => rfl
  | cons _ _ ih =>
    unfold namesT at ih ⊢
    rw [List.map_cons, List.map_cons, List.map_cons, ih]
theorem TabR.len (h : TabR K H kvs t) : kvs.length = t.length := by
  have := congrArg List.length h.keys
  rw [List.length_map, List.length_map, len_names] at this
  exact this
theorem TabR.val (h : TabR K H kvs t) (e : rowOf t n = some r) : ∃ v, valV kvs (.inr n) = some v ∧ Dp K H v r.dat := by
  induction h with
  | nil => cases e
  | @cons kvs t n' v r' hd _ ih =>
    rw [rowOf_cons] at e
    by_cases hn : n' = n
    · rw [if_pos hn] at e
      cases e
      exact ⟨v, valV_pos (by rw [hn]), hd⟩
    · rw [if_neg hn] at e
      obtain ⟨w, h1, h2⟩ := ih e
      refine ⟨w, ?_, h2⟩
      unfold valV at h1 ⊢
      rw [List.find?_cons, show decide ((Sum.inr n' : Key) = Sum.inr n) = false from decide_eq_false (fun z => hn (by injection z))]
      exact h1
theorem TabR.no (h : TabR K H kvs t) (e : rowOf t n = none) : valV kvs (.inr n) = none := by
  induction h with
  | nil => rfl
  | @cons kvs t n' v r' hd _ ih =>
    rw [rowOf_cons] at e
    by_cases hn : n' = n
    · rw [if_pos hn] at e
      cases e
    · rw [if_neg hn] at e
      have h1 := ih e
      unfold valV at h1 ⊢
      rw [List.find?_cons, show decide ((Sum.inr n' : Key) = Sum.inr n) = false from decide_eq_false (fun z => hn (by injection z))]
      exact h1
theorem TabR.isIn (h : TabR K H kvs t) : (valV kvs (.inr n)).isSome = decide (n ∈ namesT t) := by
  by_cases hn : n ∈ namesT t
  · obtain ⟨r, e⟩ := rowOf_some.mpr hn
    obtain ⟨v, e2, _⟩ := h.val e
    rw [e2, decide_eq_true hn]
    rfl
  · rw [h.no (rowOf_none.mpr hn), decide_eq_false hn]
    rfl
theorem TabR.any (h : TabR K H kvs t) : (kvs.any fun kv => decide (kv.1 = Sum.inr n)) = (t.any fun p => decide (p.1 = n)) := by
  induction h with
  | nil => rfl
  | @cons kvs t n' v r' hd _ ih =>
    rw [List.any_cons, List.any_cons, ih]
    congr 1
    by_cases hn : n' = n
    · simp [hn]
    · simp [hn]
theorem TabR.map (h : TabR K H kvs t) (hv : Dp K H v r.dat) : TabR K H (kvs.map fun kv => if kv.1 = Sum.inr n then (kv.1, v) else kv) (t.map fun p => if p.1 = n then (p.1, r) else p) := by
  induction h with
  | nil => exact .nil
  | @cons kvs t n' v' r' hd _ ih =>
    rw [List.map_cons, List.map_cons]
    by_cases hn : n' = n
    · rw [if_pos (by rw [hn]), if_pos hn]
      exact .cons hv ih
    · rw [if_neg (fun z => hn (by injection z)), if_neg hn]
      exact .cons hd ih
theorem TabR.snoc (h : TabR K H kvs t) (hv : Dp K H v r.dat) : TabR K H (kvs ++ [(.inr n, v)]) (t ++ [(n, r)]) := by
  induction h with
  | nil => exact .cons hv .nil
  | cons hd _ ih => exact .cons hd ih
theorem TabR.put (h : TabR K H kvs t) (hv : Dp K H v r.dat) : TabR K H (putK kvs (.inr n) v) (putT t n r) := by
  unfold putK putT
  rw [h.any]
  by_cases hn : (t.any fun p => decide (p.1 = n)) = true
  · rw [if_pos hn, if_pos hn]
    exact h.map hv
  · rw [if_neg hn, if_neg hn]
    exact h.snoc hv
theorem TabR.drop (h : TabR K H kvs t) : TabR K H (dropK kvs (.inr n)) (dropT t n) := by
  unfold dropK dropT
  induction h with
  | nil => exact .nil
  | @cons kvs t n' v' r' hd _ ih =>
    rw [List.filter_cons, List.filter_cons]
    by_cases hn : n' = n
    · rw [if_neg (by simp [hn]), if_neg (by simp [hn])]
      exact ih
    · rw [if_pos (by simp [hn]), if_pos (by simp [hn])]
      exact .cons hd ih
theorem TabR.tups (e : ∀ b xs, SqT K H b xs → SqT K H1 b xs) (h : TabR K H kvs t) (im : ∀ p ∈ t, imm p.2.dat = true) : TabR K H1 kvs t := by
  induction h with
  | nil => exact .nil
  | @cons kvs t n' v' r' hd _ ih => exact .cons (dp_tups e (im (n', r') (by simp)) hd) (ih fun p hp => im p (List.mem_cons_of_mem _ hp))
theorem TabR.s (h : TabR K H kvs t) (s : Same H H1) : TabR K H1 kvs t := by
  induction h with
  | nil => exact .nil
  | cons hd _ ih => exact .cons (dp_s s hd) ih
end
/-- no tuple stands at A -/
def NtA (A : Addr → Prop) (H : Hp) : Prop := ∀ b o, A b → H b = some o → notTup o
theorem kpb_tups {K : PySem.W.Frag} {A : Addr → Prop} {H H1 : Hp} (k : KpB A H H1) (l : NtA A H) : ∀ b xs, SqT K H b xs → SqT K H1 b xs := fun b xs h => by
  rcases h with (h | ⟨o, h⟩) | h
  · exact .inl (.inl (k _ _ h (fun z => l b _ z h) fun ps z => by cases z))
  · exact .inl (.inr ⟨o, k _ _ h (fun z => l b _ z h) fun ps z => by cases z⟩)
  · exact .inr h
/-- a board's dict at d; it is none of N -/
structure DicAt (K : PySem.W.Frag) (N : Addr → Prop) (H : Hp) (d : Addr) (t : Tab) : Prop where
  nn : ¬ N d
  ex : ∃ kvs, H d = some (.dK kvs) ∧ TabR K H kvs t
inductive Pst (K : PySem.W.Frag) (N : Addr → Prop) (H : Hp) : List Addr → List Tab → Prop
  | nil : Pst K N H [] []
  | cons {d : Addr} {ds : List Addr} {t : Tab} {ts : List Tab} (h : DicAt K N H d t) (ok : TabOk t) (tl : Pst K N H ds ts) : Pst K N H (d :: ds) (t :: ts)
/-- the board at b, its past at L -/
structure BrdAt (K : PySem.W.Frag) (N : Addr → Prop) (H : Hp) (b L : Addr) (t : Tab) (past : List Tab) : Prop where
  ok : TabOk t
  ex : ∃ dx d ds, H b = some (.ins (He.ga K "Board") dx [("table", .ref d), ("past", .ref L)]) ∧ DicAt K N H d t ∧ H L = some (.lst (ds.map V.ref)) ∧ Pst K N H ds past
section
variable {K : PySem.W.Frag} {N A : Addr → Prop} {H H1 : Hp} {b L d : Addr} {t : Tab} {past : List Tab} {ds : List Addr}
theorem DicAt.keep (h : DicAt K N H d t) (ok : TabOk t) (k : ∀ kvs, H d = some (.dK kvs) → H1 d = some (.dK kvs)) (e : ∀ b xs, SqT K H b xs → SqT K H1 b xs) : DicAt K N H1 d t := by
  obtain ⟨kvs, h1, h2⟩ := h.ex
  exact ⟨h.nn, kvs, k _ h1, h2.tups e ok.imm⟩
theorem Pst.keep (h : Pst K N H ds past) (k : ∀ d kvs, ¬ N d → H d = some (.dK kvs) → H1 d = some (.dK kvs)) (e : ∀ b xs, SqT K H b xs → SqT K H1 b xs) : Pst K N H1 ds past := by
  induction h with
  | nil => exact .nil
  | cons hd ok _ ih => exact .cons (hd.keep ok (fun kvs z => k _ kvs hd.nn z) e) ok ih
theorem BrdAt.kpb (h : BrdAt K N H b L t past) (k : KpB A H H1) (l : NtA A H) (nb : ¬ A b) (nL : ¬ A L) (hA : ∀ x kvs, A x → H x = some (.dK kvs) → N x) : BrdAt K N H1 b L t past := by
  obtain ⟨dx, d, ds, h1, h2, h3, h4⟩ := h.ex
  have kd : ∀ d kvs, ¬ N d → H d = some (.dK kvs) → H1 d = some (.dK kvs) := fun d kvs nd z => k _ _ z (fun a => nd (hA d kvs a z)) fun ps w => by cases w
  exact ⟨h.ok, dx, d, ds, k _ _ h1 nb fun ps z => (by cases z), h2.keep h.ok (fun kvs z => kd d kvs h2.nn z) (kpb_tups k l), k _ _ h3 nL fun ps z => (by cases z), h4.keep kd (kpb_tups k l)⟩
theorem BrdAt.s (h : BrdAt K N H b L t past) (s : Same H H1) : BrdAt K N H1 b L t past := h.kpb (A := fun _ => False) (kpb_same s) (fun _ _ z => z.elim) (fun z => z) (fun z => z) fun _ _ z => z.elim
theorem BrdAt.ne (h : BrdAt K N H b L t past) : b ≠ L := by
  obtain ⟨dx, d, ds, h1, h2, h3, h4⟩ := h.ex
  exact ne_of h1 h3 (by intro z; cases z)
end
/-- all but the board and its past stays -/
def Bd (b L : Addr) (H H2 : Hp) : Prop := ∀ x o, H x = some o → x ≠ b → x ≠ L → H2 x = some o
section
variable {b L : Addr} {H H1 H2 : Hp}
theorem Bd.of (s : Same H H1) : Bd b L H H1 := fun x o h _ _ => s x o h
theorem Bd.trans (p : Bd b L H H1) (q : Bd b L H1 H2) : Bd b L H H2 := fun x o h n m => q x o (p x o h n m) n m
theorem Bd.same (p : Bd b L H H1) (s : Same H1 H2) : Bd b L H H2 := fun x o h n m => s x o (p x o h n m)
theorem Bd.putb (p : Bd b L H H1) {o : HO} : Bd b L H (upd H1 b o) := fun x u h n m => by
  rw [upd_ne n]
  exact p x u h n m
theorem Bd.putL (p : Bd b L H H1) {o : HO} : Bd b L H (upd H1 L o) := fun x u h n m => by
  rw [upd_ne m]
  exact p x u h n m
theorem Bd.kpb (p : Bd b L H H1) : KpB (fun x => x = b ∨ x = L) H H1 := fun x o h n _ => p x o h (fun z => n (.inl z)) fun z => n (.inr z)
end
def spBrdInit (K : PySem.W.Frag) : Sp := fun vs H Q _ => ∃ (x dx : Addr), vs = [.ref x] ∧ H x = some (.ins (He.ga K "Board") dx []) ∧
  ∀ (d L : Addr) (H2 : Hp), H d = none → H L = none → (∀ b o, H b = some o → b ≠ x → H2 b = some o) → H2 x = some (.ins (He.ga K "Board") dx [("table", .ref d), ("past", .ref L)]) → H2 d = some (.dK []) → H2 L = some (.lst []) → Q .non H2
def spBrdLen (K : PySem.W.Frag) : Sp := fun vs H Q _ => ∃ (b L : Addr) (N : Addr → Prop) (t : Tab) (past : List Tab), vs = [.ref b] ∧ BrdAt K N H b L t past ∧ Q (.int (t.length : Nat)) H
theorem w_lenK {H : Hp} {Q : VK} {a : Addr} {kvs : List (Key × V)} (h : H a = some (.dK kvs)) (q : Q (.int kvs.length) H) : rLenD [.ref a] H Q := ⟨a, kvs, rfl, h, q⟩
/-- the names, rising -/
structure SrtT (t : Tab) (ys : List Str) : Prop where
  perm : ys.Perm (namesT t)
  srt : sortedS ys = true
def spBrdStr (K : PySem.W.Frag) : Sp := fun vs H Q _ => ∃ (b L : Addr) (N : Addr → Prop) (t : Tab) (past : List Tab), vs = [.ref b] ∧ BrdAt K N H b L t past ∧ ∀ ys H', SrtT t ys → Same H H' → Q (.str (Txt.join "," ys)) H'
theorem SrtT.uniq {t : Tab} {a b : List Str} (h : TabOk t) (x : SrtT t a) (y : SrtT t b) : a = b :=
  sorted_uniq x.srt y.srt (x.perm.nodup_iff.mpr h.nd) (y.perm.nodup_iff.mpr h.nd) fun z => by rw [x.perm.mem_iff, y.perm.mem_iff]
theorem SrtT.len {t : Tab} {a : List Str} (x : SrtT t a) : a.length = t.length := by rw [x.perm.length_eq, len_names]
theorem SrtT.mem {t : Tab} {a : List Str} {z : Str} (x : SrtT t a) : z ∈ a ↔ z ∈ namesT t := x.perm.mem_iff
theorem w_sortT {K : PySem.W.Frag} {H : Hp} {Q : VK} {a : Addr} {kvs : List (Key × V)} {t : Tab} (h : Rd H a (.dK kvs)) (hr : TabR K H kvs t) (hl : t.length ≤ 12) (q : ∀ ys p H2, SrtT t ys → Same H H2 → H p = none → H2 p = some (.lst (ys.map V.str)) → Q (.ref p) H2) : rSortDS [.ref a] H Q :=
  ⟨a, kvs, namesT t, rfl, h, hr.keys, by rw [len_names]; omega, fun ys p h1 h2 np => q ys p _ ⟨h1, h2⟩ (Same.new np) np upd_same⟩
theorem name_len {n : Str} (h : isName (.str n) = true) : n.length ≤ 8 := by
  simp only [isName, Bool.and_eq_true, decide_eq_true_eq] at h
  exact h.1.2
theorem names_sum : ∀ {l : List Str}, (∀ n ∈ l, isName (.str n) = true) → (l.map (·.length)).sum ≤ 8 * l.length
  | [], _ => by simp
  | n :: l, h => by
    have h1 := name_len (h n (by simp))
    have h2 := names_sum (l := l) fun m hm => h m (List.mem_cons_of_mem _ hm)
    rw [List.map_cons, List.sum_cons, List.length_cons]
    omega
theorem w_joinT {K : PySem.W.Frag} {H : Hp} {Q : VK} {a : Addr} {t : Tab} {ys : List Str} (h : TabOk t) (y : SrtT t ys) (e : H a = some (.lst (ys.map V.str))) (q : Q (.str (Txt.join "," ys)) H) : rJoin K (.str ",") [.ref a] H Q := by
  refine w_join (lstOf e) ?_ q
  have h1 := names_sum (l := ys) fun n hn => h.nm n (y.mem.mp hn)
  have h2 := y.len
  have h3 := h.len
  have h4 : ("," : Str).length = 1 := rfl
  rw [h4]
  omega
def spBrdNames (K : PySem.W.Frag) : Sp := fun vs H Q _ => ∃ (b L : Addr) (N : Addr → Prop) (t : Tab) (past : List Tab), vs = [.ref b] ∧ BrdAt K N H b L t past ∧ ∀ ys p H', SrtT t ys → Same H H' → H p = none → H' p = some (.lst (ys.map V.str)) → Q (.ref p) H'
/-- the name of a switch -/
def isSwT (t : Tab) : PyData → Bool
  | .str z => decide (z ∈ namesT t)
  | _ => false
theorem isSwT_str {t : Tab} {d : PyData} (h : isSwT t d = true) : ∃ z, d = .str z ∧ z ∈ namesT t := by
  cases d with
  | str z => exact ⟨z, rfl, of_decide_eq_true h⟩
  | _ => cases h
theorem isSwT_no {t : Tab} {d : PyData} (ok : TabOk t) (h : isName d = false) : isSwT t d = false := by
  cases d with
  | str z =>
    refine decide_eq_false fun hz => ?_
    rw [ok.nm z hz] at h
    cases h
  | _ => rfl
def spBrdNeed (K : PySem.W.Frag) : Sp := fun vs H Q E => ∃ (b L : Addr) (N : Addr → Prop) (t : Tab) (past : List Tab) (v : V) (d : PyData), vs = [.ref b, v] ∧ BrdAt K N H b L t past ∧ Dp K H v d ∧ fitS d ∧ (isSwT t d = true → ∀ H', Same H H' → Q .non H') ∧ (isSwT t d = false → ∀ H', Same H H' → E (.ref (He.ga K "BadName")) none H')
def spBrdSwitch (K : PySem.W.Frag) : Sp := fun vs H Q E => ∃ (b L : Addr) (N : Addr → Prop) (t : Tab) (past : List Tab) (v : V) (d : PyData), vs = [.ref b, v] ∧ BrdAt K N H b L t past ∧ Dp K H v d ∧ fitS d ∧ (∀ z r, d = .str z → rowOf t z = some r → ∀ u H', Same H H' → Dp K H' u r.dat → Q u H') ∧ (isSwT t d = false → ∀ H', Same H H' → E (.ref (He.ga K "BadName")) none H')
def spBrdBecomes (K : PySem.W.Frag) : Sp := fun vs H Q _ => ∃ (b L : Addr) (N : Addr → Prop) (t : Tab) (past : List Tab) (p : Addr) (t' : Tab), vs = [.ref b, .ref p] ∧ BrdAt K N H b L t past ∧ DicAt K N H p t' ∧ TabOk t' ∧ past.length ≤ 10000 ∧ ∀ H', Bd b L H H' → BrdAt K N H' b L t' (past ++ [t]) → Q .non H'
theorem Pst.len {K : PySem.W.Frag} {N : Addr → Prop} {H : Hp} {ds : List Addr} {ts : List Tab} (h : Pst K N H ds ts) : ds.length = ts.length := by
  induction h with
  | nil => rfl
  | cons _ _ _ ih => rw [List.length_cons, List.length_cons, ih]
theorem Pst.snoc {K : PySem.W.Frag} {N : Addr → Prop} {H : Hp} {ds : List Addr} {ts : List Tab} {d : Addr} {t : Tab} (h : Pst K N H ds ts) (hd : DicAt K N H d t) (ok : TabOk t) : Pst K N H (ds ++ [d]) (ts ++ [t]) := by
  induction h with
  | nil => exact .cons hd ok .nil
  | cons a b _ ih => exact .cons a b ih
def spBrdGets (K : PySem.W.Frag) : Sp := fun vs H Q _ => ∃ (b L : Addr) (N : Addr → Prop) (t : Tab) (past : List Tab) (z : Str) (v : V) (r : BRow), vs = [.ref b, .str z, v] ∧ BrdAt K N H b L t past ∧ Dp K H v r.dat ∧ TabOk (putT t z r) ∧ (∀ x, N x → ∃ o, H x = some o) ∧ past.length ≤ 10000 ∧ ∀ H', Bd b L H H' → BrdAt K N H' b L (putT t z r) (past ++ [t]) → Q .non H'
theorem same_put {H H1 : Hp} {p : Addr} {o : HO} (s : Same H H1) (np : H p = none) : Same H (upd H1 p o) := fun a u e => by
  rw [upd_ne (ne_of_none e np)]
  exact s _ _ e
/-- what comes of a deed -/
inductive BRes
  | bad (c : Str)
  | need (n : Str)
  | ok (t : Tab)
def BQ (K : PySem.W.Frag) (N : Addr → Prop) (b L : Addr) (t : Tab) (past : List Tab) (H : Hp) (Q : VK) (E : XK) : BRes → Prop
  | .bad c => ∀ H', Same H H' → E (.ref (He.ga K c)) none H'
  | .need n => ∀ dx H1, Same H H1 → H1 dx = none → E (.ref (He.ga K "Needed")) (some dx) (upd H1 dx (.xd [("by", .str n)]))
  | .ok t' => ∀ H', Bd b L H H' → BrdAt K N H' b L t' (past ++ [t]) → Q .non H'
/-- the switch that is meant -/
def swRow (t : Tab) : PyData → Option (Str × BRow)
  | .str z => (rowOf t z).map fun r => (z, r)
  | _ => none
theorem swRow_no {t : Tab} {d : PyData} (h : isSwT t d = false) : swRow t d = none := by
  cases d with
  | str z =>
    have h1 : z ∉ namesT t := of_decide_eq_false h
    show (rowOf t z).map _ = none
    rw [rowOf_none.mpr h1]
    rfl
  | _ => rfl
theorem swRow_is {t : Tab} {d : PyData} (h : isSwT t d = true) : ∃ z r, d = .str z ∧ rowOf t z = some r ∧ swRow t d = some (z, r) := by
  obtain ⟨z, rfl, hz⟩ := isSwT_str h
  obtain ⟨r, e⟩ := rowOf_some.mpr hz
  refine ⟨z, r, rfl, e, ?_⟩
  show (rowOf t z).map _ = _
  rw [e]
  rfl
def putR (t : Tab) (dn dd dr : PyData) : BRes := match dn with
  | .str z => if isName (.str z) = false then .bad "BadName" else if z ∈ namesT t then .bad "Known" else if isDeal dd = false then .bad "BadDeal" else if areRules dr = false then .bad "BadRules" else if t.length = 12 then .bad "Full" else .ok (putT t z ⟨dd, dr, [], false⟩)
  | _ => .bad "BadName"
theorem putR_no {t : Tab} {dn dd dr : PyData} (h : isName dn = false) : putR t dn dd dr = .bad "BadName" := by
  cases dn with
  | str z =>
    unfold putR
    simp only [h, if_true]
  | _ => rfl
def spBrdPut (K : PySem.W.Frag) : Sp := fun vs H Q E => ∃ (b L : Addr) (N : Addr → Prop) (t : Tab) (past : List Tab) (vn : V) (dn : PyData) (vd : V) (dd : PyData) (vr : V) (dr : PyData), vs = [.ref b, vn, vd, vr] ∧ BrdAt K N H b L t past ∧ Dp K H vn dn ∧ fitS dn ∧ Dp K H vd dd ∧ Dp K H vr dr ∧ okD dr = true ∧ (areRules dr = true → imm dr = true) ∧ (∀ x, N x → ∃ o, H x = some o) ∧ past.length ≤ 10000 ∧ BQ K N b L t past H Q E (putR t dn dd dr)
/-- a row's data, newly made -/
theorem row_of {K : PySem.W.Frag} {H : Hp} {p : Addr} {vd vr vn : V} {r : BRow} (h : H p = some (.tup [vd, vr, vn, .bl r.dim])) (h1 : Dp K H vd r.deal) (h2 : Dp K H vr r.rules) (h3 : Dp K H vn (.tuple (r.needs.map PyData.str))) : Dp K H (.ref p) r.dat :=
  .tup (tupOf h) (.cons h1 (.cons h2 (.cons h3 (.cons (.bl _) .nil))))
/-- a row taken apart -/
theorem row_at {K : PySem.W.Frag} {H : Hp} {v : V} {r : BRow} (h : Dp K H v r.dat) : ∃ p vd vr vn, v = .ref p ∧ SqT K H p [vd, vr, vn, .bl r.dim] ∧ Dp K H vd r.deal ∧ Dp K H vr r.rules ∧ Dp K H vn (.tuple (r.needs.map PyData.str)) := by
  unfold BRow.dat at h
  cases h with
  | tup hs ht =>
    cases ht with
    | cons h1 ht =>
      cases ht with
      | cons h2 ht =>
        cases ht with
        | cons h3 ht =>
          cases ht with
          | cons h4 ht =>
            cases ht
            cases h4
            exact ⟨_, _, _, _, rfl, hs, h1, h2, h3⟩
def ruleR (t : Tab) (dn dr : PyData) : BRes := match swRow t dn with
  | none => .bad "BadName"
  | some (z, r) => if areRules dr = false then .bad "BadRules" else .ok (putT t z { r with rules := dr })
def spBrdRule (K : PySem.W.Frag) : Sp := fun vs H Q E => ∃ (b L : Addr) (N : Addr → Prop) (t : Tab) (past : List Tab) (vn : V) (dn : PyData) (vr : V) (dr : PyData), vs = [.ref b, vn, vr] ∧ BrdAt K N H b L t past ∧ Dp K H vn dn ∧ fitS dn ∧ Dp K H vr dr ∧ okD dr = true ∧ (areRules dr = true → imm dr = true) ∧ (∀ x, N x → ∃ o, H x = some o) ∧ past.length ≤ 10000 ∧ BQ K N b L t past H Q E (ruleR t dn dr)
def darkR (t : Tab) (dn dd : PyData) : BRes := match swRow t dn with
  | none => .bad "BadName"
  | some (z, r) => match dd with
    | .bool x => .ok (putT t z { r with dim := x })
    | _ => .bad "BadNumber"
theorem isBool_is {d : PyData} (h : isBoolD d = true) : ∃ x, d = .bool x := by
  cases d <;> first | exact ⟨_, rfl⟩ | cases h
theorem dp_blB {K : PySem.W.Frag} {H : Hp} {v : V} {x : Bool} (h : Dp K H v (.bool x)) : v = .bl x := by
  cases h
  rfl
def spBrdDark (K : PySem.W.Frag) : Sp := fun vs H Q E => ∃ (b L : Addr) (N : Addr → Prop) (t : Tab) (past : List Tab) (vn : V) (dn : PyData) (vx : V) (dd : PyData), vs = [.ref b, vn, vx] ∧ BrdAt K N H b L t past ∧ Dp K H vn dn ∧ fitS dn ∧ Dp K H vx dd ∧ (∀ x, N x → ∃ o, H x = some o) ∧ past.length ≤ 10000 ∧ BQ K N b L t past H Q E (darkR t dn dd)
theorem nodup_len {α : Type} [DecidableEq α] : ∀ {l m : List α}, l.Nodup → (∀ x ∈ l, x ∈ m) → l.length ≤ m.length
  | [], _, _, _ => Nat.zero_le _
  | x :: l, m, nd, h => by
    rw [List.nodup_cons] at nd
    have hx := h x (by simp)
    have h2 : ∀ y ∈ l, y ∈ m.erase x := fun y hy => (List.mem_erase_of_ne (fun e : y = x => nd.1 (by rw [← e]; exact hy))).mpr (h y (List.mem_cons_of_mem _ hy))
    have ih := nodup_len nd.2 h2
    rw [List.length_erase_of_mem hx] at ih
    have : 0 < m.length := List.length_pos_of_mem hx
    rw [List.length_cons]
    omega
/-- what some switches need, and so on, themselves among them; rising -/
structure RchS (t : Tab) (ns ys : List Str) : Prop where
  nd : ys.Nodup
  srt : sortedS ys = true
  mem : ∀ x, x ∈ ys ↔ ∃ m ∈ ns, Rch t m x
theorem RchS.uniq {t : Tab} {ns a b : List Str} (x : RchS t ns a) (y : RchS t ns b) : a = b := sorted_uniq x.srt y.srt x.nd y.nd fun z => by rw [x.mem, y.mem]
structure RcI (t : Tab) (ns fl td : List Str) : Prop where
  nd : fl.Nodup
  mf : ∀ x ∈ fl, x ∈ namesT t
  mt : ∀ x ∈ td, x ∈ namesT t
  sf : ∀ x ∈ fl, ∃ m ∈ ns, Rch t m x
  st : ∀ x ∈ td, ∃ m ∈ ns, Rch t m x
  al : ∀ m ∈ ns, m ∈ fl ∨ m ∈ td
  cl : ∀ n ∈ fl, ∀ r, rowOf t n = some r → ∀ m ∈ r.needs, m ∈ fl ∨ m ∈ td
def wtT (fl : List Str) (t : Tab) : Nat := (t.map fun p => if p.1 ∈ fl then 0 else p.2.needs.length).sum
theorem wt_add {fl : List Str} {x : Str} {r : BRow} (hx : x ∉ fl) : ∀ {t : Tab}, (namesT t).Nodup → rowOf t x = some r → wtT (fl ++ [x]) t + r.needs.length = wtT fl t
  | [], _, e => by simp [rowOf_nil] at e
  | p :: t, nd, e => by
    unfold namesT at nd
    rw [List.map_cons, List.nodup_cons] at nd
    rw [rowOf_cons] at e
    unfold wtT
    rw [List.map_cons, List.map_cons, List.sum_cons, List.sum_cons]
    by_cases h : p.1 = x
    · rw [if_pos h] at e
      cases e
      rw [if_pos (by rw [h]; simp), if_neg (by rw [h]; exact hx)]
      have e2 : (t.map fun p => if p.1 ∈ fl ++ [x] then 0 else p.2.needs.length) = t.map fun p => if p.1 ∈ fl then 0 else p.2.needs.length := by
        apply List.map_congr_left
        intro s hs
        have hne : s.1 ≠ x := fun z => nd.1 (by rw [h, ← z]; exact List.mem_map.mpr ⟨s, hs, rfl⟩)
        simp [hne]
      rw [e2]
      omega
    · rw [if_neg h] at e
      have ih := wt_add hx (t := t) nd.2 e
      unfold wtT at ih
      have e3 : (if p.1 ∈ fl ++ [x] then 0 else p.2.needs.length) = if p.1 ∈ fl then 0 else p.2.needs.length := by simp [h]
      rw [e3]
      omega
theorem wt_le {t : Tab} (h : TabOk t) : wtT [] t ≤ 144 := by
  have key : ∀ l : Tab, (∀ p ∈ l, p.2.needs.length ≤ 12) → (l.map fun p => if p.1 ∈ ([] : List Str) then 0 else p.2.needs.length).sum ≤ 12 * l.length := by
    intro l
    induction l with
    | nil => intro _; simp
    | cons p l ih =>
      intro hp
      have h1 := hp p (by simp)
      have h2 := ih fun q hq => hp q (List.mem_cons_of_mem _ hq)
      rw [List.map_cons, List.sum_cons, List.length_cons, if_neg (by simp)]
      omega
  have h2 := key t fun p hp => by
    have hr := h.row p.1 p.2 (rowOf_of_mem h.nd hp)
    have := nodup_len hr.nd hr.mem
    rw [len_names] at this
    have := h.len
    omega
  have := h.len
  unfold wtT
  omega
section
variable {t : Tab} {ns fl td ys : List Str} {x : Str} {r : BRow}
theorem rcI_start (h : ∀ m ∈ ns, m ∈ namesT t) : RcI t ns [] ns := ⟨by simp, by simp, h, by simp, fun x hx => ⟨x, hx, .refl x⟩, fun m hm => .inr hm, by simp⟩
theorem rcI_skip (h : RcI t ns fl (td ++ [x])) (hx : x ∈ fl) : RcI t ns fl td := by
  have key : ∀ y, y ∈ fl ∨ y ∈ td ++ [x] → y ∈ fl ∨ y ∈ td := fun y hy => by
    rcases hy with hy | hy
    · exact .inl hy
    · rcases List.mem_append.mp hy with hy | hy
      · exact .inr hy
      · rw [List.mem_singleton.mp hy]
        exact .inl hx
  exact ⟨h.nd, h.mf, fun y hy => h.mt y (List.mem_append_left _ hy), h.sf, fun y hy => h.st y (List.mem_append_left _ hy), fun m hm => key m (h.al m hm), fun n hn r e m hm => key m (h.cl n hn r e m hm)⟩
theorem rcI_take (ok : TabOk t) (h : RcI t ns fl (td ++ [x])) (hx : x ∉ fl) (e : rowOf t x = some r) : RcI t ns (fl ++ [x]) (td ++ r.needs) := by
  have key : ∀ y, y ∈ fl ∨ y ∈ td ++ [x] → y ∈ fl ++ [x] ∨ y ∈ td ++ r.needs := fun y hy => by
    rcases hy with hy | hy
    · exact .inl (List.mem_append_left _ hy)
    · rcases List.mem_append.mp hy with hy | hy
      · exact .inr (List.mem_append_left _ hy)
      · exact .inl (List.mem_append_right _ hy)
  obtain ⟨m0, hm0, p0⟩ := h.st x (by simp)
  refine ⟨?_, fun y hy => ?_, fun y hy => ?_, fun y hy => ?_, fun y hy => ?_, fun m hm => key m (h.al m hm), fun n hn s es m hm => ?_⟩
  · rw [List.nodup_append]
    refine ⟨h.nd, by simp, fun a ha b hb => ?_⟩
    rw [List.mem_singleton.mp hb]
    exact fun z => hx (z ▸ ha)
  · rcases List.mem_append.mp hy with hy | hy
    · exact h.mf y hy
    · rw [List.mem_singleton.mp hy]
      exact h.mt x (by simp)
  · rcases List.mem_append.mp hy with hy | hy
    · exact h.mt y (List.mem_append_left _ hy)
    · exact (ok.row x r e).mem y hy
  · rcases List.mem_append.mp hy with hy | hy
    · exact h.sf y hy
    · rw [List.mem_singleton.mp hy]
      exact ⟨m0, hm0, p0⟩
  · rcases List.mem_append.mp hy with hy | hy
    · exact h.st y (List.mem_append_left _ hy)
    · exact ⟨m0, hm0, p0.trans (.one e hy)⟩
  · rcases List.mem_append.mp hn with hn | hn
    · exact key m (h.cl n hn s es m hm)
    · rw [List.mem_singleton.mp hn, e] at es
      cases es
      exact .inr (List.mem_append_right _ hm)
theorem rcI_end (h : RcI t ns fl []) (pm : ys.Perm fl) (srt : sortedS ys = true) : RchS t ns ys := by
  refine ⟨pm.nodup_iff.mpr h.nd, srt, fun x => ?_⟩
  rw [pm.mem_iff]
  constructor
  · exact h.sf x
  · rintro ⟨m, hm, p⟩
    have h0 : m ∈ fl := (h.al m hm).resolve_right (by simp)
    induction p with
    | refl n => exact h0
    | @step n m' x s e hm' tl ih =>
      have h1 : m' ∈ fl := (h.cl n h0 s e m' hm').resolve_right (by simp)
      clear hm
      exact go h tl h1
where
  go {t : Tab} {ns fl : List Str} (h : RcI t ns fl []) {a b : Str} (p : Rch t a b) (ha : a ∈ fl) : b ∈ fl := by
    induction p with
    | refl n => exact ha
    | @step n m' x s e hm' tl ih => exact ih ((h.cl n ha s e m' hm').resolve_right (by simp))
end
theorem name_lay {z : Str} (h : isName (.str z) = true) : PyData.canLay0 (.str z) = true := by
  simp only [isName, Bool.and_eq_true, List.all_eq_true, decide_eq_true_eq] at h
  have hl : ∀ c ∈ lettersL, c < 0x110000 := by decide +kernel
  show z.cps.all (· < 0x110000) = true
  rw [← Array.all_toList, List.all_eq_true]
  intro c hc
  exact decide_eq_true (hl c (h.2 c hc))
theorem gd_namesL {n : Nat} {l : List Str} (h : ∀ z ∈ l, isName (.str z) = true) (hl : l.length ≤ 1000) : Gd (n + 1) (.list (l.map PyData.str)) := gd_list (gds_mem fun d hd => by
  obtain ⟨z, hz, rfl⟩ := List.mem_map.mp hd
  exact gd_str (name_lay (h z hz))) (by rw [List.length_map]; exact hl)
theorem gd_namesT {n : Nat} {l : List Str} (h : ∀ z ∈ l, isName (.str z) = true) (hl : l.length ≤ 1000) : Gd (n + 1) (.tuple (l.map PyData.str)) := gd_tup (gds_mem fun d hd => by
  obtain ⟨z, hz, rfl⟩ := List.mem_map.mp hd
  exact gd_str (name_lay (h z hz))) (by rw [List.length_map]; exact hl)
theorem dps_strsB {K : PySem.W.Frag} {H : Hp} : ∀ l : List Str, DpAll K H (l.map V.str) (l.map PyData.str)
  | [] => .nil
  | z :: l => .cons (.str z) (dps_strsB l)
theorem strs_dps {K : PySem.W.Frag} {H : Hp} : ∀ {l : List Str} {vs : List V}, DpAll K H vs (l.map PyData.str) → vs = l.map V.str
  | [], _, .nil => rfl
  | z :: l, _, .cons h t => by
    cases h
    rw [strs_dps t]
    rfl
theorem flat_strs : ∀ l : List Str, (l.map V.str).all flatV = true
  | [] => rfl
  | z :: l => by
    rw [List.map_cons, List.all_cons, flat_strs l]
    rfl
theorem inV_strs (z : Str) : ∀ l : List Str, inV (.str z) (l.map V.str) = decide (z ∈ l) := fun l => by
  apply Bool.eq_iff_iff.mpr
  simp only [inV, List.any_map, List.any_eq_true, decide_eq_true_eq, Function.comp]
  constructor
  · rintro ⟨y, hy, e⟩
    have e : (y == z) = true := e
    rw [← eq_of_beq e]
    exact hy
  · intro h
    exact ⟨z, h, beq_self_eq_true z⟩
theorem eqv_strsNil : ∀ l : List Str, PyData.eqv (.list (l.map PyData.str)) (.list []) = decide (l = [])
  | [] => rfl
  | z :: l => rfl
def spBrdReach (K : PySem.W.Frag) : Sp := fun vs H Q _ => ∃ (b L : Addr) (N : Addr → Prop) (t : Tab) (past : List Tab) (a : Addr) (ns : List Str), vs = [.ref b, .ref a] ∧ BrdAt K N H b L t past ∧ (SqL K H a (ns.map V.str) ∨ SqT K H a (ns.map V.str)) ∧ ns.length ≤ 100 ∧ (∀ m ∈ ns, m ∈ namesT t) ∧
  ∀ ys F H', Same H H' → H F = none → H' F = some (.lst (ys.map V.str)) → RchS t ns ys → Q (.ref F) H'
/-- the texts of a row of data -/
def strsOf (ds : List PyData) : List Str := ds.filterMap fun d => match d with
  | .str z => some z
  | _ => none
theorem strsOf_map : ∀ l : List Str, strsOf (l.map PyData.str) = l
  | [] => rfl
  | z :: l => by
    show z :: strsOf (l.map PyData.str) = z :: l
    rw [strsOf_map l]
theorem sw_strs {t : Tab} : ∀ {ds : List PyData}, ds.all (isSwT t) = true → ∃ ns : List Str, ds = ns.map PyData.str ∧ ∀ m ∈ ns, m ∈ namesT t
  | [], _ => ⟨[], rfl, by simp⟩
  | d :: ds, h => by
    rw [List.all_cons, Bool.and_eq_true] at h
    obtain ⟨z, rfl, hz⟩ := isSwT_str h.1
    obtain ⟨ns, rfl, hn⟩ := sw_strs h.2
    refine ⟨z :: ns, rfl, fun m hm => ?_⟩
    rcases List.mem_cons.mp hm with rfl | hm
    · exact hz
    · exact hn m hm
/-- rising -/
def risT (ns : List Str) : Bool := decide ns.Nodup && sortedS ns
open Classical in
noncomputable def needR (t : Tab) (dn dd : PyData) : BRes := match swRow t dn with
  | none => .bad "BadName"
  | some (z, r) => match dd with
    | .tuple ds => if ds.all (isSwT t) = false then .bad "BadName" else if risT (strsOf ds) = false then .bad "BadName" else if ∃ m ∈ strsOf ds, Rch t m z then .bad "Ring" else .ok (putT t z { r with needs := strsOf ds })
    | _ => .bad "BadName"
/-- fit to be handed in as needs -/
def fitN : PyData → Prop
  | .tuple ds => ds.length ≤ 50 ∧ ∀ e ∈ ds, fitS e
  | _ => True
noncomputable def spBrdNeeds (K : PySem.W.Frag) : Sp := fun vs H Q E => ∃ (b L : Addr) (N : Addr → Prop) (t : Tab) (past : List Tab) (vn : V) (dn : PyData) (vx : V) (dd : PyData), vs = [.ref b, vn, vx] ∧ BrdAt K N H b L t past ∧ Dp K H vn dn ∧ fitS dn ∧ Dp K H vx dd ∧ fitN dd ∧ (∀ x, N x → ∃ o, H x = some o) ∧ past.length ≤ 10000 ∧ BQ K N b L t past H Q E (needR t dn dd)
theorem eqv_strsE : ∀ a b : List Str, PyData.eqvAll (a.map PyData.str) (b.map PyData.str) = decide (a = b)
  | [], [] => rfl
  | [], _ :: _ => rfl
  | _ :: _, [] => rfl
  | x :: a, y :: b => by
    have ih := eqv_strsE a b
    rw [List.map_cons, List.map_cons]
    simp only [PyData.eqvAll, ih]
    have e1 : PyData.eqv (.str x) (.str y) = decide (x = y) := by
      show (x == y) = decide (x = y)
      by_cases h : x = y
      · simp [h]
      · simp [h]
    rw [e1]
    by_cases h : x = y
    · by_cases h2 : a = b
      · simp [h, h2]
      · simp [h, h2]
    · simp [h]
/-- sorted(set(xs)), xs a list or tuple of texts -/
theorem w_sortSet {K : PySem.W.Frag} {w : World} {H : Hp} {D : Addr} {ns Ls : List Str} {Q R : VK} (hD : SqL K H D (ns.map V.str) ∨ SqT K H D (ns.map V.str)) (hl : ns.length ≤ 1000) (hLs : ∀ z ∈ ns, z ∈ Ls) (h64 : Ls.length < 64) (hR : ∀ x H1, rSortS w [x] H1 Q → R x H1)
    (q : ∀ (ys : List Str) (F : Addr) (H' : Hp), H F = none → Same H H' → sortedS ys = true → ys.Nodup → (∀ z, z ∈ ys ↔ z ∈ ns) → H' F = some (.lst (ys.map V.str)) → Q (.ref F) H') : rSetS K w [.ref D] H R := by
  refine ⟨D, ns, rfl, hD, hl, fun a c na => ?_⟩
  have sa : Same H (upd H a (SetSO w a (fun z => decide (z ∈ ns)) c)) := Same.new na
  refine hR _ _ ⟨a, _, c, Ls, rfl, upd_same, fun z hz => hLs z (of_decide_eq_true hz), h64, fun ys p hs hnd hmem np => ?_⟩
  exact q ys p _ (sa.free np) (sa.trans (Same.new np)) hs hnd (fun z => by rw [hmem z, decide_eq_true_eq]) upd_same
theorem ris_eq {ns ys : List Str} (h1 : sortedS ys = true) (h2 : ys.Nodup) (h3 : ∀ z, z ∈ ys ↔ z ∈ ns) : decide (ns = ys) = risT ns := by
  unfold risT
  apply Bool.eq_iff_iff.mpr
  rw [decide_eq_true_eq, Bool.and_eq_true, decide_eq_true_eq]
  constructor
  · rintro rfl
    exact ⟨h2, h1⟩
  · rintro ⟨n1, n2⟩
    exact sorted_uniq n2 h1 n1 h2 fun z => (h3 z).symm
open Classical in
/-- the names, rising, as they are told -/
noncomputable def srtL (t : Tab) : List Str := if h : ∃ ys, SrtT t ys then Classical.choose h else []
theorem srtL_eq {t : Tab} {ys : List Str} (ok : TabOk t) (y : SrtT t ys) : srtL t = ys := by
  have h : ∃ ys, SrtT t ys := ⟨ys, y⟩
  unfold srtL
  rw [dif_pos h]
  exact (Classical.choose_spec h).uniq ok y
/-- whether o needs z -/
def needIn (t : Tab) (z o : Str) : Bool := match rowOf t o with
  | some s => decide (z ∈ s.needs)
  | none => false
noncomputable def dropR (t : Tab) (dn : PyData) : BRes := match swRow t dn with
  | none => .bad "BadName"
  | some (z, _) => match (srtL t).find? (needIn t z) with
    | some o => .need o
    | none => .ok (dropT t z)
noncomputable def spBrdDrop (K : PySem.W.Frag) : Sp := fun vs H Q E => ∃ (b L : Addr) (N : Addr → Prop) (t : Tab) (past : List Tab) (vn : V) (dn : PyData), vs = [.ref b, vn] ∧ BrdAt K N H b L t past ∧ Dp K H vn dn ∧ fitS dn ∧ (∀ x, N x → ∃ o, H x = some o) ∧ past.length ≤ 10000 ∧ BQ K N b L t past H Q E (dropR t dn)
theorem find_first {α : Type} {p : α → Bool} : ∀ {l : List α} {i : Nat} {x : α}, l[i]? = some x → (∀ y ∈ l.take i, p y = false) → p x = true → l.find? p = some x
  | [], i, x, h, _, _ => by simp at h
  | a :: l, 0, x, h, _, hx => by
    simp at h
    subst h
    rw [List.find?_cons, hx]
  | a :: l, i + 1, x, h, hp, hx => by
    have ha := hp a (by simp)
    rw [List.find?_cons, ha]
    exact find_first (by simpa using h) (fun y hy => hp y (by simp [hy])) hx
/-- whether a user has a switch, by so many steps at most -/
def spBrdOpenR (K : PySem.W.Frag) (n : Nat) : Sp := fun vs H Q _ => ∃ (b L : Addr) (N : Addr → Prop) (t : Tab) (past : List Tab) (z : Str) (u : V) (d : PyData), vs = [.ref b, .str z, u] ∧ BrdAt K N H b L t past ∧ z ∈ namesT t ∧ Dp K H u d ∧ isUser d = true ∧ rkT t z < n ∧ ∀ H', Same H H' → Q (.bl (openT t d z)) H'
theorem needs_len {t : Tab} {z : Str} {r : BRow} (ok : TabOk t) (e : rowOf t z = some r) : r.needs.length ≤ 12 := by
  have hr := ok.row z r e
  have := nodup_len hr.nd hr.mem
  rw [len_names] at this
  have := ok.len
  omega
def spBrdHas (K : PySem.W.Frag) : Sp := fun vs H Q E => ∃ (b L : Addr) (N : Addr → Prop) (t : Tab) (past : List Tab) (v : V) (d : PyData) (u : V) (e : PyData), vs = [.ref b, v, u] ∧ BrdAt K N H b L t past ∧ Dp K H v d ∧ fitS d ∧ Dp K H u e ∧
  (∀ z, d = .str z → z ∈ namesT t → isUser e = true → ∀ H', Same H H' → Q (.bl (openT t e z)) H') ∧ (isSwT t d = false → ∀ H', Same H H' → E (.ref (He.ga K "BadName")) none H') ∧ (isSwT t d = true → isUser e = false → ∀ H', Same H H' → E (.ref (He.ga K "BadUser")) none H')
/-- why a user has a switch, or hasn't -/
def whyD (t : Tab) (e : PyData) (z : Str) : PyData := match rowOf t z with
  | none => .none
  | some r => if r.dim = true then .tuple [.str "dark"] else if letsD r.rules r.deal e = false then .tuple [.str "rules", .int (placeD e r.deal), .int (shareD r.rules (landD e) (planD e))] else match r.needs.find? (fun m => !openT t e m) with
    | some o => .tuple [.str "needs", .str o]
    | none => .tuple [.str "has"]
def spBrdWhy (K : PySem.W.Frag) : Sp := fun vs H Q E => ∃ (b L : Addr) (N : Addr → Prop) (t : Tab) (past : List Tab) (v : V) (d : PyData) (u : V) (e : PyData), vs = [.ref b, v, u] ∧ BrdAt K N H b L t past ∧ Dp K H v d ∧ fitS d ∧ Dp K H u e ∧
  (∀ z, d = .str z → z ∈ namesT t → isUser e = true → ∀ x H', Same H H' → Dp K H' x (whyD t e z) → Q x H') ∧ (isSwT t d = false → ∀ H', Same H H' → E (.ref (He.ga K "BadName")) none H') ∧ (isSwT t d = true → isUser e = false → ∀ H', Same H H' → E (.ref (He.ga K "BadUser")) none H')
/-- a table as data -/
def tabP (t : Tab) : List (Key × PyData) := t.map fun p => (.inr p.1, p.2.dat)
theorem TabR.dc {K : PySem.W.Frag} {H : Hp} {kvs : List (Key × V)} {t : Tab} (h : TabR K H kvs t) : DcR K H kvs (tabP t) := by
  induction h with
  | nil => exact .nil
  | cons hd _ ih => exact .cons hd ih
/-- whether two tables are equal, as dicts are -/
def eqTab (t u : Tab) : Bool := eqDc (tabP t) (tabP u)
def ShT (t : Tab) : Prop := ∀ p ∈ tabP t, SeqAt.shaped p.2 = true
def spBrdEq (K : PySem.W.Frag) : Sp := fun vs H Q _ => ∃ (a b : Addr), vs = [.ref a, .ref b] ∧ ((∃ (L L' : Addr) (N N' : Addr → Prop) (t t' : Tab) (past past' : List Tab), BrdAt K N H a L t past ∧ BrdAt K N' H b L' t' past' ∧ ShT t ∧ ShT t' ∧ Q (.bl (eqTab t t')) H) ∨ ∃ (L : Addr) (N : Addr → Prop) (t : Tab) (past : List Tab) (kvs : List (Key × V)), BrdAt K N H a L t past ∧ H b = some (.dK kvs) ∧ Q (.bl false) H)
def spBrdBack (K : PySem.W.Frag) : Sp := fun vs H Q E => ∃ (b L : Addr) (N : Addr → Prop) (t : Tab) (past : List Tab), vs = [.ref b] ∧ BrdAt K N H b L t past ∧ (past = [] → ∀ H', Same H H' → E (.ref (He.ga K "Nothing")) none H') ∧ (∀ p0 t0, past = p0 ++ [t0] → ∀ H', Bd b L H H' → BrdAt K N H' b L t0 p0 → Q .non H')
theorem Pst.unsnoc {K : PySem.W.Frag} {N : Addr → Prop} {H : Hp} {p0 : List Tab} {t0 : Tab} : ∀ {ds : List Addr}, Pst K N H ds (p0 ++ [t0]) → ∃ ds0 d0, ds = ds0 ++ [d0] ∧ Pst K N H ds0 p0 ∧ DicAt K N H d0 t0 ∧ TabOk t0 := by
  induction p0 with
  | nil =>
    intro ds h
    cases h with
    | @cons d ds _ _ hd ok tl =>
      cases tl
      exact ⟨[], d, rfl, .nil, hd, ok⟩
  | cons x p0 ih =>
    intro ds h
    cases h with
    | @cons d ds _ _ hd ok tl =>
      obtain ⟨ds0, d0, rfl, h1, h2, h3⟩ := ih tl
      exact ⟨d :: ds0, d0, rfl, .cons hd ok h1, h2, h3⟩
/-- the law's table at Tb, to be read; to be written -/
def TabRd (K : PySem.W.Frag) (H : Hp) (Tb : Addr) (t : Tab) : Prop := ∃ kvs, Rd H Tb (.dK kvs) ∧ TabR K H kvs t
def TabX (K : PySem.W.Frag) (H : Hp) (Tb : Addr) (t : Tab) : Prop := ∃ kvs, H Tb = some (.dK kvs) ∧ TabR K H kvs t
section
variable {K : PySem.W.Frag} {H H1 : Hp} {Tb b L : Addr} {t : Tab} {past : List Tab} {N A : Addr → Prop}
theorem TabX.rd (h : TabX K H Tb t) : TabRd K H Tb t := by
  obtain ⟨kvs, h1, h2⟩ := h
  exact ⟨kvs, .inl h1, h2⟩
theorem TabRd.s (h : TabRd K H Tb t) (s : Same H H1) : TabRd K H1 Tb t := by
  obtain ⟨kvs, h1, h2⟩ := h
  exact ⟨kvs, rd_s s h1, h2.s s⟩
theorem TabX.s (h : TabX K H Tb t) (s : Same H H1) : TabX K H1 Tb t := by
  obtain ⟨kvs, h1, h2⟩ := h
  exact ⟨kvs, s _ _ h1, h2.s s⟩
theorem TabX.kpb (h : TabX K H Tb t) (ok : TabOk t) (k : KpB A H H1) (l : NtA A H) (n : ¬ A Tb) : TabX K H1 Tb t := by
  obtain ⟨kvs, h1, h2⟩ := h
  exact ⟨kvs, k _ _ h1 n (fun ps z => by cases z), h2.tups (kpb_tups k l) ok.imm⟩
end
def spLHasR (K : PySem.W.Frag) (n : Nat) : Sp := fun vs H Q _ => ∃ (Tb : Addr) (t : Tab) (z : Str) (u : V) (d : PyData), vs = [.ref Tb, .str z, u] ∧ TabRd K H Tb t ∧ TabOk t ∧ z ∈ namesT t ∧ Dp K H u d ∧ isUser d = true ∧ rkT t z < n ∧ ∀ H', Same H H' → Q (.bl (openT t d z)) H'
def spLReach (K : PySem.W.Frag) : Sp := fun vs H Q _ => ∃ (b : Addr) (t : Tab) (a : Addr) (ns : List Str), vs = [.ref b, .ref a] ∧ TabRd K H b t ∧ TabOk t ∧ (SqL K H a (ns.map V.str) ∨ SqT K H a (ns.map V.str)) ∧ ns.length ≤ 100 ∧ (∀ m ∈ ns, m ∈ namesT t) ∧
  ∀ ys F H', Same H H' → H F = none → H' F = some (.lst (ys.map V.str)) → RchS t ns ys → Q (.ref F) H'
/-- a deed of a board -/
inductive BDeed
  | put (z : Str) (dl : PyData) (rs : List PyData)
  | rule (z : Str) (rs : List PyData)
  | need (z : Str) (ns : List Str)
  | dark (z : Str) (x : Bool)
  | drop (z : Str)
def deedD : BDeed → PyData
  | .put z dl rs => .tuple [.str "put", .str z, dl, .tuple rs]
  | .rule z rs => .tuple [.str "rule", .str z, .tuple rs]
  | .need z ns => .tuple [.str "need", .str z, .tuple (ns.map PyData.str)]
  | .dark z x => .tuple [.str "dark", .str z, .bool x]
  | .drop z => .tuple [.str "drop", .str z]
def DeedOk (t : Tab) : BDeed → Prop
  | .put z dl rs => z ∈ names5 ∧ isDeal dl = true ∧ RulesG rs
  | .rule z rs => z ∈ names5 ∧ RulesG rs
  | .need z ns => z ∈ names5 ∧ (∀ m ∈ ns, m ∈ namesT t) ∧ risT ns = true
  | .dark z _ => z ∈ names5
  | .drop z => z ∈ names5
def spLDeed (K : PySem.W.Frag) : Sp := fun vs H Q _ => ∃ (a Tb : Addr) (t : Tab), vs = [.ref a, .ref Tb] ∧ Dice H a ∧ TabX K H Tb t ∧ TabOk t ∧ ∀ v x H', But a H H' → Dp K H' v (deedD x) → DeedOk t x → Q v H'
theorem TabX.but {K : PySem.W.Frag} {H H1 : Hp} {a Tb : Addr} {t : Tab} (h : TabX K H Tb t) (ok : TabOk t) (b : But a H H1) : TabX K H1 Tb t := by
  obtain ⟨kvs, h1, h2⟩ := h
  obtain ⟨x, k, hd⟩ := b.d0
  exact ⟨kvs, b.kp _ _ h1 (ne_of h1 hd (by intro z; cases z)), h2.tups (fun _ _ z => b.tup z) ok.imm⟩
theorem sortedS_of_pw {l : List Str} (h : l.Pairwise leS) : sortedS l = true := sortedS_of_pairwise l (h.imp fun {a b} e => by
  rw [ltCps_eq]
  exact decide_eq_false e)
theorem sortedS_sub {ys ns : List Str} (h1 : sortedS ys = true) (h : ns.Sublist ys) : sortedS ns = true := sortedS_of_pw ((sorted_pw h1).sublist h)
theorem ris_sub {ys ns : List Str} (h1 : sortedS ys = true) (h2 : ys.Nodup) (h : ns.Sublist ys) : risT ns = true := by
  unfold risT
  rw [Bool.and_eq_true, decide_eq_true_eq]
  exact ⟨h.nodup h2, sortedS_sub h1 h⟩
/-- what comes of a deed, by the board's own methods -/
noncomputable def dueR (t : Tab) : BDeed → BRes
  | .put z dl rs => putR t (.str z) dl (.tuple rs)
  | .rule z rs => ruleR t (.str z) (.tuple rs)
  | .need z ns => needR t (.str z) (.tuple (ns.map PyData.str))
  | .dark z x => darkR t (.str z) (.bool x)
  | .drop z => dropR t (.str z)
def resD : BRes → PyData
  | .bad c => refD c
  | .need n => .tuple [.str "refused", .str "Needed", .str n]
  | .ok _ => .none
def resT (t : Tab) : BRes → Tab
  | .ok t' => t'
  | _ => t
def resP (t : Tab) (past : List Tab) : BRes → List Tab
  | .ok _ => past ++ [t]
  | _ => past
/-- the tables of the law -/
structure Tab5 (t : Tab) : Prop where
  nm : ∀ n ∈ namesT t, n ∈ names5
  rl : ∀ n r, rowOf t n = some r → ∃ rs, r.rules = .tuple rs ∧ RulesG rs
theorem Tab5.len {t : Tab} (h : Tab5 t) (ok : TabOk t) : t.length ≤ 5 := by
  have := nodup_len ok.nd h.nm
  rw [len_names] at this
  exact this
theorem tab5_nil : Tab5 [] := ⟨by simp [namesT], fun n r h => by simp [rowOf_nil] at h⟩
theorem Tab5.put {t : Tab} {z : Str} {r : BRow} {rs : List PyData} (h : Tab5 t) (hz : z ∈ names5) (e : r.rules = .tuple rs) (g : RulesG rs) : Tab5 (putT t z r) := by
  refine ⟨fun n hn => ?_, fun n s es => ?_⟩
  · rw [names_put] at hn
    split at hn
    · exact h.nm n hn
    · rcases List.mem_append.mp hn with hn | hn
      · exact h.nm n hn
      · rw [List.mem_singleton.mp hn]
        exact hz
  · rw [rowOf_put] at es
    by_cases en : n = z
    · rw [if_pos en] at es
      cases es
      exact ⟨rs, e, g⟩
    · rw [if_neg en] at es
      exact h.rl n s es
theorem Tab5.drop {t : Tab} {z : Str} (h : Tab5 t) : Tab5 (dropT t z) := by
  refine ⟨fun n hn => ?_, fun n s es => ?_⟩
  · rw [names_drop] at hn
    exact h.nm n (List.mem_filter.mp hn).1
  · rw [rowOf_drop] at es
    by_cases en : n = z
    · rw [if_pos en] at es
      cases es
    · rw [if_neg en] at es
      exact h.rl n s es
theorem swRow_str {t : Tab} {z : Str} : swRow t (.str z) = (rowOf t z).map fun r => (z, r) := rfl
section
variable {t : Tab} {z : Str} {r : BRow} {rs : List PyData} {dl : PyData} {ns : List Str} {x : Bool}
theorem due_put (ok : TabOk t) (t5 : Tab5 t) (h : DeedOk t (.put z dl rs)) : dueR t (.put z dl rs) = if z ∈ namesT t then .bad "Known" else .ok (putT t z ⟨dl, .tuple rs, [], false⟩) := by
  obtain ⟨h1, h2, h3⟩ := h
  have hl := t5.len ok
  show putR t (.str z) dl (.tuple rs) = _
  unfold putR
  simp only [names5_ok z h1, h2, h3.rules, Bool.true_eq_false, if_false]
  rw [if_neg (show ¬ t.length = 12 by omega)]
theorem due_no (h : rowOf t z = none) : dueR t (.rule z rs) = .bad "BadName" ∧ dueR t (.need z ns) = .bad "BadName" ∧ dueR t (.dark z x) = .bad "BadName" ∧ dueR t (.drop z) = .bad "BadName" := by
  have e : swRow t (.str z) = none := by
    rw [swRow_str, h]
    rfl
  refine ⟨?_, ?_, ?_, ?_⟩
  · show ruleR t (.str z) (.tuple rs) = _
    unfold ruleR
    rw [e]
  · show needR t (.str z) (.tuple (ns.map PyData.str)) = _
    unfold needR
    rw [e]
  · show darkR t (.str z) (.bool x) = _
    unfold darkR
    rw [e]
  · show dropR t (.str z) = _
    unfold dropR
    rw [e]
theorem due_rule (h : DeedOk t (.rule z rs)) (e : rowOf t z = some r) : dueR t (.rule z rs) = .ok (putT t z { r with rules := .tuple rs }) := by
  show ruleR t (.str z) (.tuple rs) = _
  unfold ruleR
  rw [swRow_str, e]
  simp only [Option.map_some, h.2.rules, Bool.true_eq_false, if_false]
theorem due_dark (e : rowOf t z = some r) : dueR t (.dark z x) = .ok (putT t z { r with dim := x }) := by
  show darkR t (.str z) (.bool x) = _
  unfold darkR
  rw [swRow_str, e]
  rfl
open Classical in
theorem due_need (h : DeedOk t (.need z ns)) (e : rowOf t z = some r) : dueR t (.need z ns) = if ∃ m ∈ ns, Rch t m z then .bad "Ring" else .ok (putT t z { r with needs := ns }) := by
  obtain ⟨h1, h2, h3⟩ := h
  show needR t (.str z) (.tuple (ns.map PyData.str)) = _
  unfold needR
  rw [swRow_str, e]
  have ea : (ns.map PyData.str).all (isSwT t) = true := by
    rw [List.all_eq_true]
    intro d hd
    obtain ⟨m, hm, rfl⟩ := List.mem_map.mp hd
    exact decide_eq_true (h2 m hm)
  simp only [Option.map_some, ea, strsOf_map, h3, Bool.true_eq_false, if_false]
theorem due_drop {ys : List Str} (ok : TabOk t) (e : rowOf t z = some r) (y : SrtT t ys) : dueR t (.drop z) = match ys.find? (needIn t z) with
    | some o => .need o
    | none => .ok (dropT t z) := by
  show dropR t (.str z) = _
  unfold dropR
  rw [swRow_str, e, srtL_eq ok y]
  rfl
end
theorem filter_head {α : Type} (p : α → Bool) : ∀ l : List α, l.find? p = (l.filter p).head?
  | [] => rfl
  | x :: l => by
    rw [List.find?_cons, List.filter_cons]
    cases h : p x with
    | true => rfl
    | false =>
      simp only
      rw [filter_head p l]
      rfl
noncomputable def spLDue (K : PySem.W.Frag) : Sp := fun vs H Q _ => ∃ (Tb : Addr) (v : V) (t : Tab) (x : BDeed), vs = [.ref Tb, v] ∧ TabX K H Tb t ∧ TabOk t ∧ Tab5 t ∧ Dp K H v (deedD x) ∧ DeedOk t x ∧
  ∀ v' H', Oth Tb H H' → TabX K H' Tb (resT t (dueR t x)) → Dp K H' v' (resD (dueR t x)) → Q v' H'
/-- the table written -/
theorem TabX.put {K : PySem.W.Frag} {H : Hp} {Tb : Addr} {t : Tab} {kvs : List (Key × V)} {z : Str} {v : V} {r : BRow} (h : H Tb = some (.dK kvs)) (hr : TabR K H kvs t) (ok : TabOk (putT t z r)) (hv : Dp K H v r.dat) : TabX K (upd H Tb (.dK (putK kvs (.inr z) v))) Tb (putT t z r) :=
  ⟨_, upd_same, (hr.put hv).tups (tups_upd h True.intro) ok.imm⟩
theorem dp_none {K : PySem.W.Frag} {H : Hp} : Dp K H .non .none := .non
theorem BrdAt.eT {K : PySem.W.Frag} {T : List (Addr × Str)} {N : Addr → Prop} {H H1 : Hp} {b L : Addr} {t : Tab} {past : List Tab} (h : BrdAt K N H b L t past) (e : ExT T H H1) : BrdAt K N H1 b L t past := h.kpb (A := fun _ => False) (kpb_exT e) (fun _ _ z => z.elim) (fun z => z) (fun z => z) fun _ _ z => z.elim
/-- what stands at N -/
def StN (N : Addr → Prop) (H : Hp) : Prop := ∀ x, N x → ∃ o, H x = some o ∧ ∀ ps, o ≠ .tbl ps
theorem StN.eT {T : List (Addr × Str)} {N : Addr → Prop} {H H1 : Hp} (h : StN N H) (e : ExT T H H1) : StN N H1 := fun x hx => by
  obtain ⟨o, h1, h2⟩ := h x hx
  exact ⟨o, e.ex x o h1 h2, h2⟩
theorem StN.ex {N : Addr → Prop} {H : Hp} (h : StN N H) : ∀ x, N x → ∃ o, H x = some o := fun x hx => by
  obtain ⟨o, h1, _⟩ := h x hx
  exact ⟨o, h1⟩
theorem Bd.tabs {T : List (Addr × Str)} {b L : Addr} {H H1 : Hp} {C dx : Addr} {fs : List (Str × V)} {xs : List V} (p : Bd b L H H1) (hb : H b = some (.ins C dx fs)) (hL : H L = some (.lst xs)) (t : LamX.Tabs T H) : LamX.Tabs T H1 := fun y hy => by
  obtain ⟨ps, h1, h2, h3⟩ := t y hy
  refine ⟨ps, p _ _ h1 (ne_of h1 hb (by intro z; cases z)) (ne_of h1 hL (by intro z; cases z)), h2, fun pos cv hc => ?_⟩
  obtain ⟨c, e1, e2⟩ := h3 pos cv hc
  exact ⟨c, e1, p _ _ e2 (ne_of e2 hb (by intro z; unfold LamX.CodeO at z; cases z)) (ne_of e2 hL (by intro z; unfold LamX.CodeO at z; cases z))⟩
def BGood : BRes → Prop
  | .bad c => c ∈ wnames ∧ c ≠ "Needed"
  | _ => True
theorem putR_good {t : Tab} {a b c : PyData} : BGood (putR t a b c) := by
  unfold putR
  split
  · repeat' split
    all_goals first | exact trivial | exact ⟨by decide, by decide⟩
  · exact ⟨by decide, by decide⟩
theorem ruleR_good {t : Tab} {a b : PyData} : BGood (ruleR t a b) := by
  unfold ruleR
  repeat' split
  all_goals first | exact trivial | exact ⟨by decide, by decide⟩
theorem darkR_good {t : Tab} {a b : PyData} : BGood (darkR t a b) := by
  unfold darkR
  repeat' split
  all_goals first | exact trivial | exact ⟨by decide, by decide⟩
theorem needR_good {t : Tab} {a b : PyData} : BGood (needR t a b) := by
  unfold needR
  repeat' split
  all_goals first | exact trivial | exact ⟨by decide, by decide⟩
theorem dropR_good {t : Tab} {a : PyData} : BGood (dropR t a) := by
  unfold dropR
  repeat' split
  all_goals first | exact trivial | exact ⟨by decide, by decide⟩
theorem due_good {t : Tab} {x : BDeed} : BGood (dueR t x) := by
  cases x with
  | put z dl rs => exact putR_good (t := t) (a := .str z) (b := dl) (c := .tuple rs)
  | rule z rs => exact ruleR_good (t := t) (a := .str z) (b := .tuple rs)
  | need z ns => exact needR_good (t := t) (a := .str z) (b := .tuple (ns.map PyData.str))
  | dark z x => exact darkR_good (t := t) (a := .str z) (b := .bool x)
  | drop z => exact dropR_good (t := t) (a := .str z)
/-- a told deed of a board -/
theorem bq_told {K : PySem.W.Frag} {T : List (Addr × Str)} {N : Addr → Prop} {b L : Addr} {t : Tab} {past : List Tab} {H H1 : Hp} {Q : VK} {r : BRes} (e1 : ExT T H H1) (hA : BrdAt K N H1 b L t past) (g : BGood r)
    (q : ∀ v' H', KpB (fun y => y = b ∨ y = L) H H' → BrdAt K N H' b L (resT t r) (resP t past r) → LamX.Tabs T H' → Dp K H' v' (resD r) → Q v' H') : BQ K N b L t past H1 Q (toldE K Q) r := by
  cases r with
  | bad c =>
    intro H2 s2
    exact told_no g.1 g.2 fun p H3 s3 np hp => q _ H3 ((kpb_exT e1).trans (kpb_same (s2.trans s3))) ((hA.s s2).s s3) (ext_tabs s3 (ext_tabs s2 e1.tb)) (refD_dp hp)
  | need n =>
    intro dx H2 s2 nx
    have sx : Same H2 (upd H2 dx (.xd [("by", .str n)])) := Same.new nx
    refine ⟨"Needed", by decide, rfl, .inr ⟨rfl, dx, .str n, rfl, upd_same, fun p H3 s3 np hp => ?_⟩⟩
    exact q _ H3 ((kpb_exT e1).trans (kpb_same ((s2.trans sx).trans s3))) (((hA.s s2).s sx).s s3) (ext_tabs s3 (ext_tabs sx (ext_tabs s2 e1.tb))) (.tup (tupOf hp) (.cons (.str _) (.cons (.str _) (.cons (.str _) .nil))))
  | ok t' =>
    intro H2 k2 hB
    obtain ⟨dx, d, ds, hb, hd, hL, hp⟩ := hA.ex
    exact q _ H2 ((kpb_exT e1).trans k2.kpb) hB (k2.tabs hb hL e1.tb) .non
theorem fitB {z : Str} (h : z ∈ names5) : fitS (.str z) := Nat.le_trans (names5_len z h) (by decide)
noncomputable def spLDo (K : PySem.W.Frag) (tf : List Str) : Sp := fun vs H Q _ => ∃ (b L : Addr) (N : Addr → Prop) (t : Tab) (past : List Tab) (v : V) (x : BDeed), vs = [.ref b, v] ∧ BrdAt K N H b L t past ∧ Dp K H v (deedD x) ∧ DeedOk t x ∧ StN N H ∧ past.length ≤ 10000 ∧ LamX.Tabs (tabL K tf) H ∧
  ∀ v' H', KpB (fun y => y = b ∨ y = L) H H' → BrdAt K N H' b L (resT t (dueR t x)) (resP t past (dueR t x)) → LamX.Tabs (tabL K tf) H' → Dp K H' v' (resD (dueR t x)) → Q v' H'
theorem TabR.at {K : PySem.W.Frag} {H : Hp} {kvs : List (Key × V)} {t : Tab} (h : TabR K H kvs t) : ∀ {i : Nat} {k : Key} {v : V}, kvs[i]? = some (k, v) → ∃ n r, k = .inr n ∧ t[i]? = some (n, r) ∧ Dp K H v r.dat := by
  induction h with
  | nil => intro i k v e; simp at e
  | @cons kvs t n' v' r' hd _ ih =>
    intro i k v e
    cases i with
    | zero =>
      simp at e
      obtain ⟨rfl, rfl⟩ := e
      exact ⟨n', r', rfl, rfl, hd⟩
    | succ i =>
      obtain ⟨n, r, h1, h2, h3⟩ := ih (i := i) (by simpa using e)
      exact ⟨n, r, h1, by simpa using h2, h3⟩
theorem RulesG.gd {rs : List PyData} (g : RulesG rs) : Gd 46 (.tuple rs) := by
  have h2 := depthAll_le (m := 45) (ds := rs) fun d hd => (g.all d hd).dep
  have h0 := g.ok
  simp only [okD, Bool.and_eq_true] at h0
  exact ⟨SeqAt.canLay_of_shaped h0.1, by simp only [PyData.depth]; omega, h0.2⟩
theorem deal_gd {d : PyData} {n : Nat} (h : isDeal d = true) : Gd (n + 1) d := by
  obtain ⟨s, t, rfl, _⟩ := isDeal_is h
  exact gd_tup (gds_cons gd_int (gds_cons gd_int gds_nil)) (by simp)
theorem user_gd {d : PyData} {n : Nat} (h : isUser d = true) : Gd (n + 1) d := by
  obtain ⟨a, s, t, rfl, _⟩ := isUser_is h
  exact gd_tup (gds_cons gd_int (gds_cons gd_int (gds_cons gd_int gds_nil))) (by simp)
theorem user_imm {d : PyData} (h : isUser d = true) : imm d = true := by
  obtain ⟨a, s, t, rfl, _⟩ := isUser_is h
  rfl
theorem eqv_lay {n : Nat} {d : PyData} (h : Gd n d) : PyData.eqv d d = true := SeqAt.eqv_refl d h.lay
theorem row_gd {t : Tab} {n : Str} {r : BRow} (ok : TabOk t) (t5 : Tab5 t) (e : rowOf t n = some r) : Gd 64 r.dat := by
  have hro := ok.row n r e
  obtain ⟨rs, ers, g⟩ := t5.rl n r e
  unfold BRow.dat
  refine gd_tup (gds_cons ((deal_gd (n := 0) hro.deal).mono (by omega)) (gds_cons ?_ (gds_cons (gd_namesT (n := 62) (fun z hz => ok.nm z (hro.mem z hz)) (by have := needs_len ok e; omega)) (gds_cons gd_bool gds_nil)))) (by simp)
  rw [ers]
  exact g.gd.mono (by omega)
def spLLike (K : PySem.W.Frag) : Sp := fun vs H Q _ => ∃ (b L : Addr) (N : Addr → Prop) (t : Tab) (past : List Tab) (Tb U : Addr) (us : List PyData) (vus : List V), vs = [.ref b, .ref Tb, .ref U] ∧ BrdAt K N H b L t past ∧ N Tb ∧ TabX K H Tb t ∧ Tab5 t ∧ H U = some (.lst vus) ∧ DpAll K H vus us ∧ (∀ u ∈ us, isUser u = true) ∧ ∀ H', Same H H' → Q (.bl true) H'
/-- the table locked -/
theorem lockT {K : PySem.W.Frag} {N : Addr → Prop} {H : Hp} {b L Tb : Addr} {t : Tab} {past : List Tab} {kvs : List (Key × V)} {od : Obj} (hA : BrdAt K N H b L t past) (hN : N Tb) (hk : H Tb = some (.dK kvs)) : BrdAt K N (upd H Tb (.frz od (.dK kvs))) b L t past := by
  obtain ⟨dx, d', ds, hb, hd, hL, hp⟩ := hA.ex
  have ko : Oth Tb H (upd H Tb (.frz od (.dK kvs))) := Oth.refl.put
  refine hA.kpb ko.kpb (fun x o hx ho => ?_) (ne_of hb hk (by intro z; cases z)) (ne_of hL hk (by intro z; cases z)) fun x _ hx _ => ?_
  · rw [show x = Tb from hx, hk] at ho
    cases ho
    exact trivial
  · rw [show x = Tb from hx]
    exact hN
/-- [_law_user(dice) for at in range(n)] -/
theorem lc_users {K : PySem.W.Frag} {σ : L2.St} {H : Hp} {Q : VK} {i j n : Nat} {d : Addr} {E : XK} (hd : Dice H d) (hn : n ≤ 1000) (hw : ∀ x, wipe ((wipe σ [i]).set i (some x)) [i] = wipe σ [i]) (hv : ∀ x, ((wipe σ [i]).set i (some x))[j]? = some (some (.ref d)))
    (q : ∀ U us vus H', But d H H' → H U = none → U ≠ d → H' U = some (.lst vus) → DpAll K H' vus us → us.length = n → (∀ u ∈ us, isUser u = true) → Q (.ref U) H') : LcGoal (Itr 0 n) (gName i) tYes (tCall (spUser K) [] E (tCons (tVar j) tNil)) [i] σ H Q := by
  refine lc_dice (K := K) walk_range (by omega) (fun k us => us.length = k ∧ ∀ u ∈ us, isUser u = true) hd ⟨rfl, by simp⟩ (fun _ _ => trivial) ?_ ?_
  · rintro C k acc y G' G'' hC hk hacc hG' ⟨b2, nC, us, h1, h2, hul, huu⟩ ⟨rfl, rfl⟩
    refine w_name ⟨hw _, w_yes (if_t rfl (w_call (w_cons (w_var (hv _) (w_nil ?_)))))⟩
    refine ⟨d, rfl, b2.d1, fun up n l m Hx bx nup hup n0 n1 l0 l1 m0 m1 => ?_⟩
    refine lcr_nx hC (by omega) hacc hG' b2 nC h1 h2 bx (d := .tuple [.int n, .int l, .int m]) (.tup (tupOf hup) (.cons (.int n) (.cons (.int l) (.cons (.int m) .nil)))) rfl ⟨by simp [hul], fun u hu => ?_⟩
    rcases List.mem_append.mp hu with hu | hu
    · exact huu u hu
    · cases List.mem_singleton.mp hu
      exact isUser_mk n0 n1 l0 l1 m0 m1
  · rintro U ua us Hu nU bu nUd hU hus him ⟨hul, huu⟩
    exact q U us ua Hu bu nU nUd hU hus hul huu
/-- for name in table: nothing of it is changed -/
theorem for_tab {K : PySem.W.Frag} {N : Addr → Prop} {H : Hp} {b L Tb : Addr} {t : Tab} {past : List Tab} {σ : L2.St} {D : Ends} {g : TG} {tb : TS} {j : Nat} (A : L2.St → Prop) (hA : BrdAt K N H b L t past) (hN : N Tb) (hX : TabX K H Tb t) (hσ : σ[j]? = some (some (.ref Tb))) (h0 : A σ)
    (hs : ∀ (n : Str) (r : BRow) (σ' : L2.St) (H' : Hp) (Nx : L2.St → Hp → Prop) (rt : VK) (bk : L2.St → Hp → Prop), A σ' → Oth Tb H H' → BrdAt K N H' b L t past → TabRd K H' Tb t → rowOf t n = some r → (∀ σ2 H2, A σ2 → Same H' H2 → Nx σ2 H2) → g (.str n) σ' H' fun σ2 H2 => tb ⟨Nx, rt, bk, Nx⟩ σ2 H2)
    (hd : ∀ σ2 H2, A σ2 → Same H H2 → D.nx σ2 H2) : tLock (tFor (iKeys (tVar j)) g tb) D σ H := by
  obtain ⟨kvs, hk, hr2⟩ := hX
  have ok := hA.ok
  refine w_lockS hk True.intro fun od => ?_
  have hA5 := lockT (od := od) hA hN hk
  have hr5 : TabR K (upd H Tb (.frz od (.dK kvs))) kvs t := hr2.tups (tups_upd hk True.intro) ok.imm
  have hl2 : (upd H Tb (.frz od (.dK kvs))) Tb = some (.frz od (.dK kvs)) := upd_same
  have ho : Oth Tb H (upd H Tb (.frz od (.dK kvs))) := Oth.refl.put
  have lk : ∀ H3, Same (upd H Tb (.frz od (.dK kvs))) H3 → Same H (upd H3 Tb (.dK kvs)) := fun H3 s => lock_same hk s
  generalize upd H Tb (.frz od (.dK kvs)) = HL at *
  refine w_for (w_iKeys (w_var hσ ⟨Tb, od, rfl, .inl ⟨kvs, hl2, ?_⟩⟩))
  refine for_go (walk_keys (kvs := kvs)) (fun i σ H' => A σ ∧ Same HL H') ⟨h0, Same.refl _⟩ (fun i σ H' _ x => x.2 _ _ hl2) ?_ ?_
  · rintro i x σ' H' H'' hi ⟨ha, s6⟩ ⟨rfl, k, v, hkv, rfl⟩
    obtain ⟨n, r, rfl, hti, hdv⟩ := hr5.at hkv
    have er : rowOf t n = some r := rowOf_of_mem (p := (n, r)) ok.nd (List.mem_of_getElem? hti)
    exact hs n r σ' H'' _ _ _ ha (ho.same s6) (hA5.s s6) ⟨kvs, .inr ⟨od, s6 _ _ hl2⟩, hr5.s s6⟩ er fun σ2 H2 a2 s2 => ⟨a2, s6.trans s2⟩
  · rintro σ' H' ⟨ha, s6⟩
    exact ⟨s6 _ _ hl2, hd _ _ ha (lk _ s6)⟩
theorem Oth.tups {K : PySem.W.Frag} {H H1 : Hp} {p : Addr} {u : HO} (o : Oth p H H1) (hp : H p = some u) (n : notTup u) : ∀ b xs, SqT K H b xs → SqT K H1 b xs := kpb_tups o.kpb fun x v hx hv => by
  rw [show x = p from hx, hp] at hv
  cases hv
  exact n
theorem kV_str (n : Str) : kV (.inr n) = .str n := rfl
/-- the same switches, perhaps in another order -/
def EqR2 (t t' : Tab) : Prop := ∀ n, rowOf t' n = rowOf t n
theorem EqR2.open_ {t t' : Tab} (h : EqR2 t t') (u : PyData) : ∀ (k : Nat) (n : Str), openF t' u k n = openF t u k n
  | 0, _ => rfl
  | k + 1, n => by
    unfold openF
    rw [h n]
    cases rowOf t n with
    | none => rfl
    | some r =>
      have : openF t' u k = openF t u k := funext fun m => EqR2.open_ h u k m
      simp only [this]
theorem EqR2.mem {t t' : Tab} (h : EqR2 t t') (n : Str) : n ∈ namesT t' ↔ n ∈ namesT t := by
  rw [← rowOf_some, ← rowOf_some, h n]
theorem perm_nd {α : Type} [DecidableEq α] {l m : List α} (a : l.Nodup) (b : m.Nodup) (h : ∀ x, x ∈ l ↔ x ∈ m) : l.Perm m := by
  rw [List.perm_iff_count]
  intro x
  by_cases hx : x ∈ l
  · have h1 := List.nodup_iff_count.mp a x
    have h2 := List.nodup_iff_count.mp b x
    have h3 := List.count_pos_iff.mpr hx
    have h4 := List.count_pos_iff.mpr ((h x).mp hx)
    omega
  · rw [List.count_eq_zero_of_not_mem hx, List.count_eq_zero_of_not_mem fun z => hx ((h x).mpr z)]
theorem EqR2.perm {t t' : Tab} (h : EqR2 t t') (ok : TabOk t) (ok' : TabOk t') : (namesT t').Perm (namesT t) := perm_nd ok'.nd ok.nd h.mem
theorem EqR2.len {t t' : Tab} (h : EqR2 t t') (ok : TabOk t) (ok' : TabOk t') : t'.length = t.length := by
  have := (h.perm ok ok').length_eq
  rw [len_names, len_names] at this
  exact this
theorem EqR2.srt {t t' : Tab} {ys : List Str} (h : EqR2 t t') (ok : TabOk t) (ok' : TabOk t') (y : SrtT t' ys) : SrtT t ys := ⟨y.perm.trans (h.perm ok ok'), y.srt⟩
def spLLike2 (K : PySem.W.Frag) : Sp := fun vs H Q _ => ∃ (b L : Addr) (N : Addr → Prop) (t' : Tab) (past : List Tab) (Tb : Addr) (t : Tab) (U : Addr) (us : List PyData) (vus : List V), vs = [.ref b, .ref Tb, .ref U] ∧ BrdAt K N H b L t' past ∧ N Tb ∧ TabX K H Tb t ∧ TabOk t ∧ Tab5 t ∧ EqR2 t t' ∧ H U = some (.lst vus) ∧ DpAll K H vus us ∧ (∀ u ∈ us, isUser u = true) ∧ ∀ H', Same H H' → Q (.bl true) H'
/-- a board, its table u, and the dice, since H0 -/
structure BSt (K : PySem.W.Frag) (T : List (Addr × Str)) (d : Addr) (H0 H : Hp) (b L Tb : Addr) (t : Tab) (past : List Tab) (u : Tab) : Prop where
  bt : ButT T d H0 H
  tb : LamX.Tabs T H
  A : BrdAt K (fun x => x = Tb) H b L t past
  X : TabX K H Tb u
  uk : TabOk u
  t5 : Tab5 u
  nb : NwT H0 b
  nL : NwT H0 L
  nT : NwT H0 Tb
/-- found != [("refused", c)] * n -/
theorem w_repRef {K : PySem.W.Frag} {T : List (Addr × Str)} {σ : L2.St} {H0 H : Hp} {F : Addr} {c : Str} {n i : Nat} {m : Int} {Q : VK} (hm : m = (n : Int)) (f : Fnd K T H0 F (List.replicate n (refD c)) H) (hc : PyData.canLay0 (.str c) = true) (hn : n ≤ 1000) (e : σ[i]? = some (some (.ref F))) (q : ∀ H2, Same H H2 → Q (.bl false) H2) :
    tOp (rNeD K) (tVar i) (tOp rRep (tLst (tCons (tTup (tCons (tC (.str "refused")) (tCons (tC (.str c)) tNil))) tNil)) (tC (.int m))) σ H Q := by
  refine w_op ⟨_, e, ?_⟩
  refine evl_use (K := K) (evl_rep (n := n) hm (evl_lst (evds_cons (evd_tup (evds_cons evd_str (evds_cons evd_str evds_nil)) (len_ok rfl)) evds_nil) (len_ok rfl)) (by simp; omega) hn) fun p vs H1 s1 np hp hv => ?_
  rw [show (List.replicate n [refD c]).flatten = List.replicate n (refD c) by simp] at hv
  have g := gd_refs (n := n) hc hn
  refine w_neD (dp_s s1 f.dp) (.lst (lstOf hp) hv) g.sh g.sh ?_
  rw [eqv_listSelf fun d hd => by
    cases (List.mem_replicate.mp hd).2
    exact eqv_refD c]
  exact q _ s1
theorem notSwT {t : Tab} {d : PyData} (ok : TabOk t) (t5 : Tab5 t) (h : isName d = false ∨ d = .str "zz") : isSwT t d = false := by
  rcases h with h | rfl
  · exact isSwT_no ok h
  · exact decide_eq_false fun z => absurd (t5.nm _ z) (by decide +kernel)
theorem noSw {t : Tab} {d : PyData} (h : isSwT t d = false) {z : Str} (e : d = .str z) (hz : z ∈ namesT t) : False := by
  rw [e] at h
  exact of_decide_eq_false h hz
theorem fit_strB {z : Str} (h : Nat.ble z.length 100000 = true) : fitS (.str z) := Nat.le_of_ble_eq_true h
theorem BSt.exT {K : PySem.W.Frag} {T : List (Addr × Str)} {d : Addr} {H0 H H1 : Hp} {b L Tb : Addr} {t u : Tab} {past : List Tab} (h : BSt K T d H0 H b L Tb t past u) (e : ExT T H H1) : BSt K T d H0 H1 b L Tb t past u := by
  obtain ⟨kvs, hk, hr⟩ := h.X
  exact ⟨h.bt.exT e, e.tb, h.A.eT e, ⟨kvs, e.ex _ _ hk (fun ps z => by cases z), hr.tups (fun _ _ z => tup_eT e z) h.uk.imm⟩, h.uk, h.t5, h.nb, h.nL, h.nT⟩
theorem ButT.kpb' {T : List (Addr × Str)} {A : Addr → Prop} {a : Addr} {H H1 H2 : Hp} (b : ButT T a H H1) (k : KpB A H1 H2) (nA : ∀ c, A c → NwT H c) (na : ¬ A a) (t : LamX.Tabs T H2) : ButT T a H H2 := by
  obtain ⟨x, y, hd⟩ := b.d1
  refine ⟨b.d0, ⟨x, y, k _ _ hd na fun ps z => by cases z⟩, fun c o h n m => k c o (b.kp c o h n m) (fun z => ?_) m, fun _ => t⟩
  obtain ⟨ps, e⟩ := nA c z o h
  exact m ps e
theorem nw_no {H : Hp} {p : Addr} (h : H p = none) : NwT H p := fun u e => by
  rw [h] at e
  cases e
theorem due_t5 {t : Tab} {x : BDeed} (ok : TabOk t) (t5 : Tab5 t) (hx : DeedOk t x) : Tab5 (resT t (dueR t x)) := by
  cases x with
  | put z dl rs =>
    rw [due_put ok t5 hx]
    split
    · exact t5
    · exact t5.put hx.1 rfl hx.2.2
  | rule z rs =>
    cases e : rowOf t z with
    | none =>
      rw [(due_no (rs := rs) (ns := []) (x := true) e).1]
      exact t5
    | some r =>
      rw [due_rule hx e]
      exact t5.put hx.1 rfl hx.2
  | need z ns =>
    cases e : rowOf t z with
    | none =>
      rw [(due_no (rs := []) (ns := ns) (x := true) e).2.1]
      exact t5
    | some r =>
      obtain ⟨rs, ers, g⟩ := t5.rl z r e
      rw [due_need hx e]
      split
      · exact t5
      · exact t5.put (rs := rs) hx.1 ers g
  | dark z x =>
    cases e : rowOf t z with
    | none =>
      rw [(due_no (rs := []) (ns := []) (x := x) e).2.2.1]
      exact t5
    | some r =>
      obtain ⟨rs, ers, g⟩ := t5.rl z r e
      rw [due_dark e]
      exact t5.put (rs := rs) hx ers g
  | drop z =>
    cases e : rowOf t z with
    | none =>
      rw [(due_no (rs := []) (ns := []) (x := true) e).2.2.2]
      exact t5
    | some r =>
      show Tab5 (resT t (dropR t (.str z)))
      unfold dropR
      rw [swRow_str, e]
      simp only [Option.map_some]
      split
      · exact t5
      · exact t5.drop
theorem wname_lay : ∀ c ∈ wnames, PyData.canLay0 (.str c) = true := by decide +kernel
theorem res_gd {t : Tab} {r : BRes} (g : BGood r) (hn : ∀ n, r = .need n → isName (.str n) = true) : Gd 64 (resD r) := by
  cases r with
  | bad c => exact gd_tup (n := 63) (gds_cons (gd_str (by decide +kernel)) (gds_cons (gd_str (wname_lay c g.1)) gds_nil)) (by simp)
  | need n => exact gd_tup (n := 63) (gds_cons (gd_str (by decide +kernel)) (gds_cons (gd_str (by decide +kernel)) (gds_cons (gd_str (name_lay (hn n rfl))) gds_nil))) (by simp)
  | ok t' => exact gd_non
theorem srtL_mem {t : Tab} {o : Str} (h : o ∈ srtL t) : o ∈ namesT t := by
  unfold srtL at h
  split at h
  · rename_i e
    exact (Classical.choose_spec e).mem.mp h
  · cases h
theorem due_need_name {t : Tab} {x : BDeed} {n : Str} (ok : TabOk t) (h : dueR t x = .need n) : isName (.str n) = true := by
  cases x with
  | put z dl rs =>
    have h : putR t (.str z) dl (.tuple rs) = .need n := h
    unfold putR at h
    repeat' split at h
    all_goals cases h
  | rule z rs =>
    have h : ruleR t (.str z) (.tuple rs) = .need n := h
    unfold ruleR at h
    repeat' split at h
    all_goals cases h
  | need z ns =>
    have h : needR t (.str z) (.tuple (ns.map PyData.str)) = .need n := h
    unfold needR at h
    repeat' split at h
    all_goals cases h
  | dark z x =>
    have h : darkR t (.str z) (.bool x) = .need n := h
    unfold darkR at h
    repeat' split at h
    all_goals cases h
  | drop z =>
    have h : dropR t (.str z) = .need n := h
    unfold dropR at h
    split at h
    · cases h
    · split at h
      · rename_i o hf
        cases h
        exact ok.nm _ (srtL_mem (List.mem_of_find?_eq_some hf))
      · cases h
theorem due_gd {t : Tab} {x : BDeed} (ok : TabOk t) : Gd 64 (resD (dueR t x)) := res_gd (t := t) due_good fun _ h => due_need_name ok h
theorem resD_imm (r : BRes) : imm (resD r) = true := by
  cases r <;> rfl
theorem deed_imm {t : Tab} {x : BDeed} (h : DeedOk t x) : imm (deedD x) = true := by
  cases x with
  | put z dl rs => simp only [deedD, imm, immAll, deal_imm h.2.1, h.2.2.imm, Bool.and_self]
  | rule z rs => simp only [deedD, imm, immAll, h.2.imm, Bool.and_self]
  | need z ns => simp only [deedD, imm, immAll, imm_strs, Bool.and_self]
  | dark z x => rfl
  | drop z => rfl
theorem resP_len (t : Tab) (past : List Tab) (r : BRes) : (resP t past r).length ≤ past.length + 1 := by
  cases r <;> simp [resP]
section
variable {K : PySem.W.Frag} {T : List (Addr × Str)} {d : Addr} {H0 H H1 H2 : Hp} {b L Tb : Addr} {t t' u u' : Tab} {past past' : List Tab}
theorem BSt.ne (h : BSt K T d H0 H b L Tb t past u) : d ≠ b ∧ d ≠ L ∧ d ≠ Tb ∧ Tb ≠ b ∧ Tb ≠ L ∧ b ≠ L := by
  obtain ⟨x, y, hd⟩ := h.bt.d1
  obtain ⟨dx, d', ds, hb, _, hL, _⟩ := h.A.ex
  obtain ⟨kvs, hk, _⟩ := h.X
  refine ⟨ne_of hd hb (by intro z; cases z), ne_of hd hL (fun z => ?_), ne_of hd hk (by intro z; cases z), ne_of hk hb (by intro z; cases z), ne_of hk hL (by intro z; cases z), h.A.ne⟩
  injection z with z
  cases ds with
  | nil => cases z
  | cons e es => cases z
theorem BSt.ntA (h : BSt K T d H0 H b L Tb t past u) : NtA (fun y => y = b ∨ y = L) H := fun x o hx ho => by
  obtain ⟨dx, d', ds, hb, _, hL, _⟩ := h.A.ex
  rcases hx with e | e
  · rw [e, hb] at ho
    cases ho
    exact trivial
  · rw [e, hL] at ho
    cases ho
    exact trivial
theorem BSt.ntT (h : BSt K T d H0 H b L Tb t past u) : NtA (fun y => y = Tb) H := fun x o hx ho => by
  obtain ⟨kvs, hk, _⟩ := h.X
  rw [show x = Tb from hx, hk] at ho
  cases ho
  exact trivial
theorem BSt.same (h : BSt K T d H0 H b L Tb t past u) (s : Same H H1) : BSt K T d H0 H1 b L Tb t past u := ⟨h.bt.same s, ext_tabs s h.tb, h.A.s s, h.X.s s, h.uk, h.t5, h.nb, h.nL, h.nT⟩
theorem BSt.but (h : BSt K T d H0 H b L Tb t past u) (c : But d H H1) : BSt K T d H0 H1 b L Tb t past u := by
  obtain ⟨n1, n2, n3, _⟩ := h.ne
  have hc := But.toT (T := T) c
  refine ⟨h.bt.trans hc, hc.tb h.tb, h.A.kpb (kpb_but c (A := fun y => y = d) rfl) (fun x o hx ho => ?_) n1.symm n2.symm (fun x kvs hx hk => ?_), h.X.but h.uk c, h.uk, h.t5, h.nb, h.nL, h.nT⟩
  · obtain ⟨x', y', hd⟩ := c.d0
    rw [show x = d from hx, hd] at ho
    cases ho
    exact trivial
  · obtain ⟨x', y', hd⟩ := c.d0
    rw [show x = d from hx, hd] at hk
    cases hk
theorem BSt.deed (h : BSt K T d H0 H b L Tb t past u) (k : KpB (fun y => y = b ∨ y = L) H H1) (hB : BrdAt K (fun x => x = Tb) H1 b L t' past') (tb : LamX.Tabs T H1) : BSt K T d H0 H1 b L Tb t' past' u := by
  obtain ⟨n1, n2, n3, n4, n5, _⟩ := h.ne
  exact ⟨h.bt.kpb' k (fun c hc => by rcases hc with e | e <;> rw [e]; exact h.nb; exact h.nL) (fun z => z.elim n1 n2) tb, tb, hB, h.X.kpb h.uk k h.ntA (fun z => z.elim n4 n5), h.uk, h.t5, h.nb, h.nL, h.nT⟩
theorem BSt.due (h : BSt K T d H0 H b L Tb t past u) (o : Oth Tb H H1) (hX : TabX K H1 Tb u') (uk : TabOk u') (t5 : Tab5 u') : BSt K T d H0 H1 b L Tb t past u' := by
  obtain ⟨n1, n2, n3, n4, n5, _⟩ := h.ne
  obtain ⟨kvs, hk, _⟩ := h.X
  have tb : LamX.Tabs T H1 := fun y hy => by
    obtain ⟨ps, h1, h2, h3⟩ := h.tb y hy
    refine ⟨ps, o _ _ h1 (ne_of h1 hk (by intro z; cases z)), h2, fun pos cv hc => ?_⟩
    obtain ⟨c, e1, e2⟩ := h3 pos cv hc
    exact ⟨c, e1, o _ _ e2 (ne_of e2 hk (by intro z; unfold LamX.CodeO at z; cases z))⟩
  exact ⟨h.bt.kpb' o.kpb (fun c hc => by rw [show c = Tb from hc]; exact h.nT) n3 tb, tb, h.A.kpb o.kpb h.ntT n4.symm n5.symm (fun x _ hx _ => hx), hX, uk, t5, h.nb, h.nL, h.nT⟩
/-- a deed done and due: they tell the same -/
theorem w_deed {σ : L2.St} {i j k : Nat} {v : V} {x : BDeed} {tf : List Str} {E E' : XK} {Q : V → V → Hp → Prop} (hi : σ[i]? = some (some (.ref b))) (hj : σ[j]? = some (some v)) (hk : σ[k]? = some (some (.ref Tb))) (h : BSt K (tabL K tf) d H0 H b L Tb t past t) (hv : Dp K H v (deedD x)) (hx : DeedOk t x) (hl : past.length ≤ 10000)
    (q : ∀ v1 v2 H', BSt K (tabL K tf) d H0 H' b L Tb (resT t (dueR t x)) (resP t past (dueR t x)) (resT t (dueR t x)) → KpB (fun y => (y = b ∨ y = L) ∨ y = Tb) H H' → Dp K H' v1 (resD (dueR t x)) → Dp K H' v2 (resD (dueR t x)) → Q v1 v2 H') :
    tCall (spLDo K tf) [] E (tCons (tVar i) (tCons (tVar j) tNil)) σ H fun v1 H1 => tCall (spLDue K) [] E' (tCons (tVar k) (tCons (tVar j) tNil)) σ H1 fun v2 H2 => Q v1 v2 H2 := by
  obtain ⟨kvs, hkk, _⟩ := h.X
  refine w_call (w_cons (w_var hi (w_cons (w_var hj (w_nil ?_)))))
  refine ⟨b, L, _, t, past, v, x, rfl, h.A, hv, hx, fun y hy => ⟨.dK kvs, by rw [show y = Tb from hy]; exact hkk, fun ps z => by cases z⟩, hl, h.tb, fun v1 H1 k1 hB1 tb1 hv1 => ?_⟩
  have h1 := h.deed k1 hB1 tb1
  have hv' := dp_tups (kpb_tups (K := K) k1 h.ntA) (deed_imm hx) hv
  refine w_call (w_cons (w_var hk (w_cons (w_var hj (w_nil ?_)))))
  refine ⟨Tb, v, t, x, rfl, h1.X, h1.uk, h1.t5, hv', hx, fun v2 H2 o2 hX2 hv2 => ?_⟩
  have h2 := h1.due o2 hX2 hB1.ok (due_t5 h.uk h.t5 hx)
  exact q v1 v2 H2 h2 (fun c o hc nc m => o2 c o (k1 c o hc (fun z => nc (.inl z)) m) fun z => nc (.inr z)) (dp_tups (kpb_tups (K := K) o2.kpb h1.ntT) (resD_imm _) hv1) hv2
theorem w_deedNe {σ : L2.St} {i j k : Nat} {v : V} {x : BDeed} {tf : List Str} {E E' : XK} {Q : VK} (hi : σ[i]? = some (some (.ref b))) (hj : σ[j]? = some (some v)) (hk : σ[k]? = some (some (.ref Tb))) (h : BSt K (tabL K tf) d H0 H b L Tb t past t) (hv : Dp K H v (deedD x)) (hx : DeedOk t x) (hl : past.length ≤ 10000)
    (q : ∀ H', BSt K (tabL K tf) d H0 H' b L Tb (resT t (dueR t x)) (resP t past (dueR t x)) (resT t (dueR t x)) → KpB (fun y => (y = b ∨ y = L) ∨ y = Tb) H H' → Q (.bl false) H') :
    tOp (rNeD K) (tCall (spLDo K tf) [] E (tCons (tVar i) (tCons (tVar j) tNil))) (tCall (spLDue K) [] E' (tCons (tVar k) (tCons (tVar j) tNil))) σ H Q :=
  w_op (w_deed hi hj hk h hv hx hl fun v1 v2 H' h' k' d1 d2 => by
    have g := due_gd (x := x) h.uk
    refine w_neD d1 d2 g.sh g.sh ?_
    rw [eqv_lay g]
    exact q H' h' k')
theorem w_deedEq {σ : L2.St} {i j k : Nat} {v : V} {x : BDeed} {tf : List Str} {E E' : XK} {Q : VK} (hi : σ[i]? = some (some (.ref b))) (hj : σ[j]? = some (some v)) (hk : σ[k]? = some (some (.ref Tb))) (h : BSt K (tabL K tf) d H0 H b L Tb t past t) (hv : Dp K H v (deedD x)) (hx : DeedOk t x) (hl : past.length ≤ 10000)
    (q : ∀ H', BSt K (tabL K tf) d H0 H' b L Tb (resT t (dueR t x)) (resP t past (dueR t x)) (resT t (dueR t x)) → KpB (fun y => (y = b ∨ y = L) ∨ y = Tb) H H' → Q (.bl true) H') :
    tOp (rEqD K) (tCall (spLDo K tf) [] E (tCons (tVar i) (tCons (tVar j) tNil))) (tCall (spLDue K) [] E' (tCons (tVar k) (tCons (tVar j) tNil))) σ H Q :=
  w_op (w_deed hi hj hk h hv hx hl fun v1 v2 H' h' k' d1 d2 => by
    have g := due_gd (x := x) h.uk
    refine w_eqD d1 d2 g.sh g.sh ?_
    rw [eqv_lay g]
    exact q H' h' k')
/-- a new board -/
theorem w_board {σ : L2.St} {Q : VK} {E : XK} (q : ∀ b d L H1, Same H H1 → H b = none → H d = none → H L = none → H1 d ≠ none → (∀ N : Addr → Prop, (∀ x, N x → x ≠ d) → BrdAt K N H1 b L [] []) → Q (.ref b) H1) : tMake (He.ga K "Board") (spBrdInit K) [] E tNil σ H Q := by
  refine w_make (w_nil fun b dx nb ndx hne => ?_)
  have so : Same H (upd (upd H dx (.own b)) b (.ins (He.ga K "Board") dx [])) := (Same.new ndx).trans (Same.new (by rw [upd_ne hne.symm]; exact nb))
  have hn : ∀ c, (upd (upd H dx (.own b)) b (.ins (He.ga K "Board") dx [])) c = none → H c = none := fun c hc => so.free hc
  refine ⟨b, dx, rfl, upd_same, fun d L H2 nd nL k2 hb hd hL => ⟨rfl, ?_⟩⟩
  have s2 : Same H H2 := fun c o e => k2 c o (so _ _ e) fun z => by
    rw [z, nb] at e
    cases e
  refine q b d L H2 s2 nb (hn d nd) (hn L nL) (by rw [hd]; simp) fun N hN => ?_
  exact ⟨tab_nil, dx, d, [], hb, ⟨fun z => hN d z rfl, [], hd, .nil⟩, hL, .nil⟩
end
section
variable {K : PySem.W.Frag} {T : List (Addr × Str)} {d : Addr} {H0 H H1 : Hp} {b L Tb : Addr} {t t' u : Tab} {past past' : List Tab}
theorem BSt.bd (h : BSt K T d H0 H b L Tb t past u) (k : Bd b L H H1) (hB : BrdAt K (fun x => x = Tb) H1 b L t' past') : BSt K T d H0 H1 b L Tb t' past' u := by
  obtain ⟨dx, d', ds, hb, _, hL, _⟩ := h.A.ex
  exact h.deed k.kpb hB (k.tabs hb hL h.tb)
theorem BSt.st (h : BSt K T d H0 H b L Tb t past u) : ∀ x, x = Tb → ∃ o, H x = some o := fun x hx => by
  obtain ⟨kvs, hk, _⟩ := h.X
  exact ⟨_, by rw [hx]; exact hk⟩
end
def spLBoard (K : PySem.W.Frag) (tf : List Str) : Sp := fun vs H Q _ => ∃ (a : Addr) (m : Nat), vs = [.ref a, .int (m : Nat)] ∧ Dice H a ∧ 1 ≤ m ∧ m ≤ 1000 ∧ LamX.Tabs (tabL K tf) H ∧
  ∀ p b L Tb t past H', BSt K (tabL K tf) a H H' b L Tb t past t → H' p = some (.tup [.ref b, .ref Tb, .bl true]) → t ≠ [] → past.length ≤ m + 3 → Q (.ref p) H'
theorem tabP_sh {t : Tab} (ok : TabOk t) (t5 : Tab5 t) : ∀ p ∈ tabP t, SeqAt.shaped p.2 = true := fun p hp => by
  obtain ⟨x, hx, rfl⟩ := List.mem_map.mp hp
  exact (row_gd ok t5 (rowOf_of_mem ok.nd hx)).sh
theorem eqDc_nil (t : Tab) : eqDc (tabP t) [] = decide (t = []) := by
  cases t with
  | nil => rfl
  | cons p t => rfl
theorem abcd {i : Nat} (h : i < 2) : ∃ z ∈ names5, atI [V.str "ab", V.str "cd"] (0 + (i : Int)) = some (.str z) := by
  have e : i = 0 ∨ i = 1 := by omega
  rcases e with rfl | rfl
  · exact ⟨"ab", by decide, rfl⟩
  · exact ⟨"cd", by decide, rfl⟩
def spLWhy (K : PySem.W.Frag) : Sp := fun vs H Q _ => ∃ (Tb : Addr) (t : Tab) (z : Str) (u : V) (e : PyData), vs = [.ref Tb, .str z, u] ∧ TabRd K H Tb t ∧ TabOk t ∧ z ∈ namesT t ∧ Dp K H u e ∧ isUser e = true ∧ ∀ x H', Same H H' → Dp K H' x (whyD t e z) → Q x H'
theorem why_has {t : Tab} {e : PyData} {z : Str} (ok : TabOk t) (hz : z ∈ namesT t) : PyData.eqv (whyD t e z) (.tuple [.str "has"]) = openT t e z := by
  obtain ⟨r, er⟩ := rowOf_some.mpr hz
  rw [openT_row ok er]
  unfold whyD
  rw [er]
  simp only
  cases hd : r.dim with
  | true =>
    rw [if_pos rfl]
    rfl
  | false =>
    rw [if_neg (by simp)]
    cases hl : letsD r.rules r.deal e with
    | false =>
      rw [if_pos rfl]
      rfl
    | true =>
      rw [if_neg (by simp)]
      cases hf : r.needs.find? (fun m => !openT t e m) with
      | some o =>
        have h1 := List.find?_some hf
        have h2 := List.mem_of_find?_eq_some hf
        have : r.needs.all (openT t e) = false := by
          rw [Bool.eq_false_iff]
          intro w
          rw [List.all_eq_true.mp w o h2] at h1
          cases h1
        rw [this]
        rfl
      | none =>
        have : r.needs.all (openT t e) = true := by
          rw [List.all_eq_true]
          intro m hm
          have := List.find?_eq_none.mp hf m hm
          simpa using this
        rw [this]
        rfl
theorem why_gd {t : Tab} {e : PyData} {z : Str} (ok : TabOk t) : Gd 64 (whyD t e z) := by
  unfold whyD
  cases er : rowOf t z with
  | none => exact gd_non
  | some r =>
    simp only
    split
    · exact gd_tup (n := 63) (gds_cons (gd_str (by decide +kernel)) gds_nil) (by simp)
    · split
      · exact gd_tup (n := 63) (gds_cons (gd_str (by decide +kernel)) (gds_cons gd_int (gds_cons gd_int gds_nil))) (by simp)
      · cases hf : r.needs.find? (fun m => !openT t e m) with
        | some o => exact gd_tup (n := 63) (gds_cons (gd_str (by decide +kernel)) (gds_cons (gd_str (name_lay (ok.nm o ((ok.row z r er).mem o (List.mem_of_find?_eq_some hf))))) gds_nil)) (by simp)
        | none => exact gd_tup (n := 63) (gds_cons (gd_str (by decide +kernel)) gds_nil) (by simp)
def bare (r : BRow) : BRow := ⟨r.deal, .tuple [], [], false⟩
/-- the rows of a board that is being built: those of done are whole -/
def rowB (t : Tab) (done : List Str) (n : Str) : Option BRow := if n ∈ done then rowOf t n else (rowOf t n).map bare
theorem same_bd {H H1 H2 : Hp} {b L : Addr} (s : Same H H1) (k : Bd b L H1 H2) (nb : H b = none) (nL : H L = none) : Same H H2 := fun x o e => k x o (s x o e) (fun z => by rw [z, nb] at e; cases e) fun z => by rw [z, nL] at e; cases e
theorem rch_sub {t t' : Tab} (h : ∀ n r', rowOf t' n = some r' → ∃ r, rowOf t n = some r ∧ ∀ m ∈ r'.needs, m ∈ r.needs) {a b : Str} (p : Rch t' a b) : Rch t a b := by
  induction p with
  | refl n => exact .refl n
  | @step n m x s e hm tl ih =>
    obtain ⟨r, er, hs⟩ := h n s e
    exact .step er (hs m hm) ih
theorem rowB_sub {t : Tab} {done : List Str} {n : Str} {r' : BRow} (e : rowB t done n = some r') : ∃ r, rowOf t n = some r ∧ ∀ m ∈ r'.needs, m ∈ r.needs := by
  unfold rowB at e
  split at e
  · exact ⟨r', e, fun _ h => h⟩
  · obtain ⟨r, er, rfl⟩ := Option.map_eq_some_iff.mp e
    exact ⟨r, er, fun m hm => by cases hm⟩
theorem put_ok2 {t : Tab} {z : Str} {dd dr : PyData} (hz : z ∉ namesT t) (hn : isName (.str z) = true) (hd : isDeal dd = true) (hr : areRules dr = true) (hl : t.length ≠ 12) : putR t (.str z) dd dr = .ok (putT t z ⟨dd, dr, [], false⟩) := by
  unfold putR
  simp only [hn, hz, hd, hr, hl, Bool.true_eq_false, if_false]
theorem w_revL {K : PySem.W.Frag} {σ : L2.St} {H : Hp} {Q : VK} {te : TE} (h : te σ H fun x H1 => ∃ a xs, x = .ref a ∧ SqL K H1 a xs ∧ ∀ p, H1 p = none → Q (.ref p) (upd H1 p (.lst xs.reverse))) : tRevL K te σ H Q := h
def spLBuilt (K : PySem.W.Frag) : Sp := fun vs H Q _ => ∃ (Tb NL : Addr) (t : Tab) (ns : List Str), vs = [.ref Tb, .ref NL] ∧ TabX K H Tb t ∧ TabOk t ∧ Tab5 t ∧ H NL = some (.lst (ns.map V.str)) ∧ ns.Perm (namesT t) ∧
  ∀ b L t' past H', Same H H' → H b = none → H L = none → BrdAt K (fun x => x = Tb) H' b L t' past → EqR2 t t' → past.length ≤ 100 → Q (.ref b) H'
/-! texts of boards, sign by sign -/
mutual
/-- a thing as signs -/
def wL : PyData → List Nat
  | .tuple ds => 40 :: ((wTl ds).tail ++ [41])
  | .int n => TL.numL n.toNat
  | .bool b => TL.numL (if b = true then 1 else 0)
  | .str z => TL.tl z
  | _ => []
/-- things behind one another, a blank ahead of each -/
def wTl : List PyData → List Nat
  | [] => []
  | d :: ds => 32 :: (wL d ++ wTl ds)
end
def wS (d : PyData) : Str := ⟨(wL d).toArray⟩
theorem tl_wS (d : PyData) : TL.tl (wS d) = wL d := rfl
theorem wS_len (d : PyData) : (wS d).length = (wL d).length := TL.len_tl _
/-- what is written, so many steps deep -/
def Wr : Nat → PyData → Prop
  | 0, _ => False
  | n + 1, .tuple ds => ds.length ≤ 1000 ∧ ∀ d ∈ ds, Wr n d
  | _ + 1, .int i => 0 ≤ i ∧ i < 100000000
  | _ + 1, .bool _ => True
  | _ + 1, .str z => TL.tl z ≠ [] ∧ ∀ c ∈ TL.tl z, 97 ≤ c ∧ c ≤ 122 ∧ (TL.tl z).length ≤ 8
  | _ + 1, _ => False
theorem Wr.mono : ∀ {n : Nat} {d : PyData}, Wr n d → Wr (n + 1) d
  | 0, _, h => h.elim
  | n + 1, .tuple ds, h => ⟨h.1, fun d hd => Wr.mono (h.2 d hd)⟩
  | _ + 1, .int i, h => h
  | _ + 1, .bool _, h => h
  | _ + 1, .str z, h => h
  | _ + 1, .none, h => h.elim
  | _ + 1, .list _, h => h.elim
  | _ + 1, .dict _, h => h.elim
theorem Wr.le {n m : Nat} {d : PyData} (h : Wr n d) (hm : n ≤ m) : Wr m d := by
  induction hm with
  | refl => exact h
  | step _ ih => exact ih.mono
theorem wTl_tail : ∀ ds : List PyData, TL.joinL [32] (ds.map wL) = (wTl ds).tail
  | [] => rfl
  | [d] => by
    show wL d = wL d ++ []
    rw [List.append_nil]
  | d :: e :: ds => by
    have ih := wTl_tail (e :: ds)
    show wL d ++ ([32] ++ TL.joinL [32] ((e :: ds).map wL)) = wL d ++ (32 :: (wL e ++ wTl ds))
    rw [ih]
    rfl
/-- each sign of what is written -/
def signOk (c : Nat) : Prop := c = 32 ∨ c = 40 ∨ c = 41 ∨ (48 ≤ c ∧ c ≤ 57) ∨ (97 ≤ c ∧ c ≤ 122)
theorem num_sign {n c : Nat} (h : c ∈ TL.numL n) : signOk c := .inr (.inr (.inr (.inl (TL.numL_digits n c h))))
theorem wTl_sign : ∀ {ds : List PyData}, (∀ d ∈ ds, ∀ c ∈ wL d, signOk c) → ∀ c ∈ wTl ds, signOk c
  | [], _, c, h => by cases h
  | d :: ds, hd, c, h => by
    rcases List.mem_cons.mp h with e | h
    · exact .inl e
    · rcases List.mem_append.mp h with h | h
      · exact hd d (by simp) c h
      · exact wTl_sign (fun e he => hd e (List.mem_cons_of_mem _ he)) c h
theorem wL_sign : ∀ {n : Nat} {d : PyData}, Wr n d → ∀ c ∈ wL d, signOk c
  | 0, _, h, _, _ => h.elim
  | n + 1, .tuple ds, h, c, hc => by
    rcases List.mem_cons.mp hc with e | hc
    · exact .inr (.inl e)
    · rcases List.mem_append.mp hc with hc | hc
      · exact wTl_sign (fun d hd => wL_sign (h.2 d hd)) c (List.mem_of_mem_tail hc)
      · exact .inr (.inr (.inl (List.mem_singleton.mp hc)))
  | _ + 1, .int i, h, c, hc => num_sign hc
  | _ + 1, .bool b, h, c, hc => num_sign hc
  | _ + 1, .str z, h, c, hc => .inr (.inr (.inr (.inr ⟨(h.2 c hc).1, (h.2 c hc).2.1⟩)))
  | _ + 1, .none, h, _, _ => h.elim
  | _ + 1, .list _, h, _, _ => h.elim
  | _ + 1, .dict _, h, _, _ => h.elim
/-! reading back -/
mutual
def tokL : PyData → List (List Nat)
  | .tuple ds => [40] :: (tokLs ds ++ [[41]])
  | .int n => [TL.numL n.toNat]
  | .bool b => [TL.numL (if b = true then 1 else 0)]
  | .str z => [TL.tl z]
  | _ => []
def tokLs : List PyData → List (List Nat)
  | [] => []
  | d :: ds => tokL d ++ tokLs ds
end
mutual
/-- what is read of what was written -/
def rdD : PyData → PyData
  | .tuple ds => .tuple (rdDs ds)
  | .bool b => .int (if b = true then 1 else 0)
  | .int n => .int n
  | .str z => .str z
  | _ => .none
def rdDs : List PyData → List PyData
  | [] => []
  | d :: ds => rdD d :: rdDs ds
end
theorem rdDs_map : ∀ ds : List PyData, rdDs ds = ds.map rdD
  | [] => rfl
  | d :: ds => by
    show rdD d :: rdDs ds = _
    rw [rdDs_map ds]
    rfl
/-- the words of a text, the empty ones left out -/
def wsF (l : List Nat) : List (List Nat) := (TL.spl [32] 0 [] l).filter fun w => !w.isEmpty
theorem wsF_nil : wsF [] = [] := rfl
theorem wsF_blank (r : List Nat) : wsF (32 :: r) = wsF r := by
  unfold wsF
  have h := TL.spl_part1 (s := 32) (S := []) (p := []) (rest := r) (acc := []) (by simp)
  have h : TL.spl [32] 0 [] (32 :: r) = [] :: TL.spl [32] 0 [] r := h
  rw [h, List.filter_cons]
  rfl
theorem wsF_word {w r : List Nat} (hw : w ≠ []) (h : 32 ∉ w) : wsF (w ++ 32 :: r) = w :: wsF r := by
  unfold wsF
  have e : TL.spl [32] 0 [] (w ++ 32 :: r) = w :: TL.spl [32] 0 [] r := by
    have := TL.spl_part1 (s := 32) (S := []) (p := w) (rest := r) (acc := []) h
    simpa using this
  rw [e, List.filter_cons, if_pos]
  cases w with
  | nil => exact absurd rfl hw
  | cons _ _ => rfl
theorem wsF_last {w : List Nat} (hw : w ≠ []) (h : 32 ∉ w) : wsF w = [w] := by
  unfold wsF
  rw [TL.spl_last1 h, List.nil_append, List.filter_cons, if_pos]
  · rfl
  · cases w with
    | nil => exact absurd rfl hw
    | cons _ _ => rfl
/-- blanks about each bracket -/
def spB (l : List Nat) : List Nat := l.flatMap fun c => if c = 40 then [32, 40, 32] else if c = 41 then [32, 41, 32] else [c]
theorem spB_app (a b : List Nat) : spB (a ++ b) = spB a ++ spB b := List.flatMap_append
theorem spB_cons (c : Nat) (l : List Nat) : spB (c :: l) = (if c = 40 then [32, 40, 32] else if c = 41 then [32, 41, 32] else [c]) ++ spB l := List.flatMap_cons
theorem spB_free : ∀ {w : List Nat}, (∀ c ∈ w, c ≠ 40 ∧ c ≠ 41) → spB w = w
  | [], _ => rfl
  | c :: w, h => by
    have h1 := h c (by simp)
    rw [spB_cons, if_neg h1.1, if_neg h1.2, spB_free fun e he => h e (List.mem_cons_of_mem _ he)]
    rfl
/-- a blank, or the end -/
def endB (r : List Nat) : Prop := r = [] ∨ ∃ q, r = 32 :: q
theorem wsF_leaf {w r : List Nat} (hw : w ≠ []) (h : ∀ c ∈ w, c ≠ 32 ∧ c ≠ 40 ∧ c ≠ 41) (hr : endB r) : wsF (spB w ++ r) = w :: wsF r := by
  have h32 : 32 ∉ w := fun m => (h 32 m).1 rfl
  rw [spB_free fun c hc => (h c hc).2]
  rcases hr with rfl | ⟨q, rfl⟩
  · rw [List.append_nil, wsF_last hw h32, wsF_nil]
  · rw [wsF_word hw h32, wsF_blank]
theorem num_free {n c : Nat} (h : c ∈ TL.numL n) : c ≠ 32 ∧ c ≠ 40 ∧ c ≠ 41 := by
  have := TL.numL_digits n c h
  omega
theorem wTl_end {ds : List PyData} {r : List Nat} (hr : endB r) : endB (spB (wTl ds) ++ r) := by
  cases ds with
  | nil => exact hr
  | cons d ds => exact .inr ⟨_, rfl⟩
theorem wsF_list : ∀ {ds : List PyData}, (∀ d ∈ ds, ∀ r, endB r → wsF (spB (wL d) ++ r) = tokL d ++ wsF r) → ∀ r, endB r → wsF (spB (wTl ds) ++ r) = tokLs ds ++ wsF r
  | [], _, r, _ => rfl
  | d :: ds, h, r, hr => by
    have e : spB (wTl (d :: ds)) ++ r = 32 :: (spB (wL d) ++ (spB (wTl ds) ++ r)) := by
      show spB (32 :: (wL d ++ wTl ds)) ++ r = _
      rw [spB_cons, spB_app]
      simp
    rw [e, wsF_blank, h d (by simp) _ (wTl_end hr), wsF_list (fun e he => h e (List.mem_cons_of_mem _ he)) r hr]
    show _ = (tokL d ++ tokLs ds) ++ wsF r
    rw [List.append_assoc]
theorem wsF_tail (ds : List PyData) (r : List Nat) : wsF (spB (wTl ds).tail ++ r) = wsF (spB (wTl ds) ++ r) := by
  cases ds with
  | nil => rfl
  | cons d ds =>
    show _ = wsF (spB (32 :: (wL d ++ wTl ds)) ++ r)
    rw [spB_cons]
    show _ = wsF (32 :: (spB (wL d ++ wTl ds) ++ r))
    rw [wsF_blank]
    rfl
theorem wsF_wL : ∀ {n : Nat} {d : PyData}, Wr n d → ∀ r, endB r → wsF (spB (wL d) ++ r) = tokL d ++ wsF r
  | 0, _, h, _, _ => h.elim
  | n + 1, .tuple ds, h, r, hr => by
    have e : spB (wL (.tuple ds)) ++ r = 32 :: ([40] ++ 32 :: (spB (wTl ds).tail ++ (32 :: ([41] ++ 32 :: r)))) := by
      show spB (40 :: ((wTl ds).tail ++ [41])) ++ r = _
      rw [spB_cons, spB_app]
      simp [spB]
    rw [e, wsF_blank, wsF_word (by simp) (by simp), wsF_tail, wsF_list (fun d hd => wsF_wL (h.2 d hd)) _ (.inr ⟨_, rfl⟩), wsF_blank, wsF_word (by simp) (by simp)]
    show _ = ([40] :: (tokLs ds ++ [[41]])) ++ wsF r
    simp
  | _ + 1, .int i, h, r, hr => wsF_leaf (TL.numL_ne _) (fun c hc => num_free hc) hr
  | _ + 1, .bool b, h, r, hr => wsF_leaf (TL.numL_ne _) (fun c hc => num_free hc) hr
  | _ + 1, .str z, h, r, hr => wsF_leaf h.1 (fun c hc => by have := h.2 c hc; omega) hr
  | _ + 1, .none, h, _, _ => h.elim
  | _ + 1, .list _, h, _, _ => h.elim
  | _ + 1, .dict _, h, _, _ => h.elim
/-! replacing one sign -/
theorem joinL_cons {Z p : List Nat} : ∀ {l : List (List Nat)}, l ≠ [] → TL.joinL Z (p :: l) = p ++ (Z ++ TL.joinL Z l)
  | [], h => absurd rfl h
  | _ :: _, _ => rfl
theorem spl_ne (S : List Nat) : ∀ (l acc : List Nat), TL.spl S 0 acc l ≠ []
  | [], acc => by rw [TL.spl_nil]; simp
  | c :: r, acc => by
    by_cases h : TL.pre S (c :: r) = true
    · rw [TL.spl_hit h]
      simp
    · rw [TL.spl_miss (by simpa using h)]
      exact spl_ne S r _
theorem rep_flat (c : Nat) (Z : List Nat) : ∀ (l acc : List Nat), TL.joinL Z (TL.spl [c] 0 acc l) = acc ++ l.flatMap fun a => if a = c then Z else [a]
  | [], acc => by
    rw [TL.spl_nil]
    show acc = acc ++ []
    rw [List.append_nil]
  | a :: r, acc => by
    rw [List.flatMap_cons]
    by_cases h : a = c
    · have hp : TL.pre [c] (a :: r) = true := by
        subst h
        exact TL.pre_self [a] r
      rw [TL.spl_hit hp, if_pos h]
      have e : TL.spl [c] ([c].length - 1) [] r = TL.spl [c] 0 [] r := rfl
      rw [e, joinL_cons (spl_ne _ _ _), rep_flat c Z r [], List.nil_append]
    · rw [TL.spl_miss (TL.pre_of_head [] r h), if_neg h, rep_flat c Z r, List.append_assoc]
theorem tl_replace {x z : Str} {c : Nat} (hc : c < 256) : TL.tl (Txt.replace x ⟨#[c]⟩ z) = (TL.tl x).flatMap fun a => if a = c then TL.tl z else [a] := by
  rw [StrLaws.replace_one, TL.tl_join, TL.split_spl _ _ (by simp [TL.tl]) (TL.kind_ok (by simpa using hc))]
  exact (rep_flat c (TL.tl z) (TL.tl x) []).trans (List.nil_append _)
theorem spB_two (l : List Nat) : ((l.flatMap fun a => if a = 40 then [32, 40, 32] else [a]).flatMap fun a => if a = 41 then [32, 41, 32] else [a]) = spB l := by
  rw [List.flatMap_assoc]
  unfold spB
  congr 1
  funext a
  by_cases h : a = 40
  · subst h
    rfl
  · rw [if_neg h, if_neg h]
    simp
/-! the stack of rows, the last one first -/
/-- the word of a number or a name -/
def okW (w : List Nat) : Prop := (∃ n : Nat, n < 100000000 ∧ w = TL.numL n) ∨ (w ≠ [] ∧ ∀ c ∈ w, 97 ≤ c ∧ c ≤ 122 ∧ w.length ≤ 8)
open Classical in
noncomputable def readW (w : List Nat) : PyData := if h : ∃ n : Nat, w = TL.numL n then .int (Classical.choose h : Nat) else .str ⟨w.toArray⟩
theorem readW_num (n : Nat) : readW (TL.numL n) = .int (n : Nat) := by
  unfold readW
  have h : ∃ m : Nat, TL.numL n = TL.numL m := ⟨n, rfl⟩
  rw [dif_pos h, TL.numL_inj (Classical.choose_spec h).symm]
theorem readW_str {z : Str} (h1 : TL.tl z ≠ []) (h2 : ∀ c ∈ TL.tl z, 97 ≤ c ∧ c ≤ 122 ∧ (TL.tl z).length ≤ 8) : readW (TL.tl z) = .str z := by
  unfold readW
  rw [dif_neg, TL.mk_tl]
  rintro ⟨n, e⟩
  cases hz : TL.tl z with
  | nil => exact h1 hz
  | cons c r =>
    have a := h2 c (by rw [hz]; simp)
    have b := TL.numL_digits n c (by rw [← e, hz]; simp)
    omega
open Classical in
noncomputable def stepT (st : List (List PyData)) (w : List Nat) : Option (List (List PyData)) :=
  if w = [40] then some ([] :: st)
  else if w = [41] then (match st with
    | r :: q :: more => some ((q ++ [.tuple r]) :: more)
    | _ => none)
  else if w = [] then some st
  else match st with
    | r :: more => some ((r ++ [readW w]) :: more)
    | [] => none
noncomputable def runT : List (List PyData) → List (List Nat) → Option (List (List PyData))
  | st, [] => some st
  | st, w :: ws => (stepT st w).bind fun st' => runT st' ws
theorem runT_app : ∀ (a b : List (List Nat)) (st : List (List PyData)), runT st (a ++ b) = (runT st a).bind fun st' => runT st' b
  | [], b, st => rfl
  | w :: a, b, st => by
    show (stepT st w).bind (fun st' => runT st' (a ++ b)) = ((stepT st w).bind fun st' => runT st' a).bind fun st' => runT st' b
    cases stepT st w with
    | none => rfl
    | some s => exact runT_app a b s
theorem runT_skip : ∀ (ws : List (List Nat)) (st : List (List PyData)), runT st ws = runT st (ws.filter fun w => !w.isEmpty)
  | [], st => rfl
  | [] :: ws, st => by
    rw [List.filter_cons, if_neg (by simp)]
    show (stepT st []).bind _ = _
    have e : stepT st [] = some st := by simp [stepT]
    rw [e]
    exact runT_skip ws st
  | (c :: w) :: ws, st => by
    rw [List.filter_cons, if_pos (show (!(c :: w).isEmpty) = true from rfl)]
    show (stepT st (c :: w)).bind (fun st' => runT st' ws) = (stepT st (c :: w)).bind fun st' => runT st' _
    congr 1
    funext st'
    exact runT_skip ws st'
theorem step_word {w : List Nat} {r : List PyData} {more : List (List PyData)} (h : w ≠ [] ∧ ∀ c ∈ w, c ≠ 32 ∧ c ≠ 40 ∧ c ≠ 41) : stepT (r :: more) w = some ((r ++ [readW w]) :: more) := by
  unfold stepT
  rw [if_neg (fun e => (h.2 40 (by rw [e]; simp)).2.1 rfl), if_neg (fun e => (h.2 41 (by rw [e]; simp)).2.2 rfl), if_neg h.1]
theorem okW_free {w : List Nat} (h : okW w) : w ≠ [] ∧ ∀ c ∈ w, c ≠ 32 ∧ c ≠ 40 ∧ c ≠ 41 := by
  rcases h with ⟨n, _, rfl⟩ | ⟨h1, h2⟩
  · exact ⟨TL.numL_ne n, fun c hc => num_free hc⟩
  · exact ⟨h1, fun c hc => by have := h2 c hc; omega⟩
theorem run_leaf {w : List Nat} {d : PyData} {r : List PyData} {more : List (List PyData)} (h : okW w) (e : readW w = d) : runT (r :: more) [w] = some ((r ++ [d]) :: more) := by
  show (stepT (r :: more) w).bind _ = _
  rw [step_word (okW_free h), e]
  rfl
theorem run_list : ∀ {ds : List PyData}, (∀ d ∈ ds, ∀ r more, runT (r :: more) (tokL d) = some ((r ++ [rdD d]) :: more)) → ∀ r more, runT (r :: more) (tokLs ds) = some ((r ++ ds.map rdD) :: more)
  | [], _, r, more => by
    show some (r :: more) = _
    simp
  | d :: ds, h, r, more => by
    show runT (r :: more) (tokL d ++ tokLs ds) = _
    rw [runT_app, h d (by simp)]
    show runT ((r ++ [rdD d]) :: more) (tokLs ds) = _
    rw [run_list fun e he => h e (List.mem_cons_of_mem _ he)]
    simp
theorem run_wL : ∀ {n : Nat} {d : PyData}, Wr n d → ∀ r more, runT (r :: more) (tokL d) = some ((r ++ [rdD d]) :: more)
  | 0, _, h, _, _ => h.elim
  | n + 1, .tuple ds, h, r, more => by
    show (stepT (r :: more) [40]).bind (fun st' => runT st' (tokLs ds ++ [[41]])) = _
    have e : stepT (r :: more) [40] = some ([] :: r :: more) := by simp [stepT]
    rw [e]
    show runT ([] :: r :: more) (tokLs ds ++ [[41]]) = _
    rw [runT_app, run_list fun d hd => run_wL (h.2 d hd)]
    show (stepT (([] ++ ds.map rdD) :: r :: more) [41]).bind _ = _
    have e2 : stepT (([] ++ ds.map rdD) :: r :: more) [41] = some ((r ++ [.tuple ([] ++ ds.map rdD)]) :: more) := by simp [stepT]
    rw [e2, List.nil_append, ← rdDs_map]
    rfl
  | _ + 1, .int i, h, r, more => by
    refine run_leaf (.inl ⟨i.toNat, by have := h.1; have := h.2; omega, rfl⟩) ?_
    rw [readW_num]
    show PyData.int ((i.toNat : Nat) : Int) = .int i
    congr 1
    have := h.1
    omega
  | _ + 1, .bool b, h, r, more => by
    refine run_leaf (.inl ⟨_, by split <;> omega, rfl⟩) ?_
    rw [readW_num]
    cases b <;> rfl
  | _ + 1, .str z, h, r, more => run_leaf (.inr h) (readW_str h.1 h.2)
  | _ + 1, .none, h, _, _ => h.elim
  | _ + 1, .list _, h, _, _ => h.elim
  | _ + 1, .dict _, h, _, _ => h.elim
theorem tok_list : ∀ {ds : List PyData}, (∀ d ∈ ds, ∀ w ∈ tokL d, w = [40] ∨ w = [41] ∨ okW w) → ∀ w ∈ tokLs ds, w = [40] ∨ w = [41] ∨ okW w
  | [], _, w, h => by cases h
  | d :: ds, hd, w, h => by
    rcases List.mem_append.mp h with h | h
    · exact hd d (by simp) w h
    · exact tok_list (fun e he => hd e (List.mem_cons_of_mem _ he)) w h
theorem tok_ok : ∀ {n : Nat} {d : PyData}, Wr n d → ∀ w ∈ tokL d, w = [40] ∨ w = [41] ∨ okW w
  | 0, _, h, _, _ => h.elim
  | n + 1, .tuple ds, h, w, hw => by
    rcases List.mem_cons.mp hw with e | hw
    · exact .inl e
    · rcases List.mem_append.mp hw with hw | hw
      · exact tok_list (fun d hd => tok_ok (h.2 d hd)) w hw
      · exact .inr (.inl (List.mem_singleton.mp hw))
  | _ + 1, .int i, h, w, hw => .inr (.inr (.inl ⟨i.toNat, by have := h.1; have := h.2; omega, List.mem_singleton.mp hw⟩))
  | _ + 1, .bool b, h, w, hw => .inr (.inr (.inl ⟨_, by split <;> omega, List.mem_singleton.mp hw⟩))
  | _ + 1, .str z, h, w, hw => .inr (.inr (.inr (by rw [List.mem_singleton.mp hw]; exact h)))
  | _ + 1, .none, h, _, _ => h.elim
  | _ + 1, .list _, h, _, _ => h.elim
  | _ + 1, .dict _, h, _, _ => h.elim
/-- what a text is read as -/
structure RdOk (l : List Nat) (ds : List PyData) : Prop where
  ok : ∀ w ∈ TL.spl [32] 0 [] (spB l), w = [] ∨ w = [40] ∨ w = [41] ∨ okW w
  run : runT [[]] (TL.spl [32] 0 [] (spB l)) = some [[.tuple ds]]
theorem rd_ok {n : Nat} {ds : List PyData} (h : Wr n (.tuple ds)) : RdOk (wL (.tuple ds)) (ds.map rdD) := by
  have e : wsF (spB (wL (.tuple ds))) = tokL (.tuple ds) := by
    have := wsF_wL h [] (.inl rfl)
    rw [List.append_nil, wsF_nil, List.append_nil] at this
    exact this
  refine ⟨fun w hw => ?_, ?_⟩
  · by_cases h0 : w = []
    · exact .inl h0
    · have : w ∈ wsF (spB (wL (.tuple ds))) := List.mem_filter.mpr ⟨hw, by cases w with | nil => exact absurd rfl h0 | cons _ _ => rfl⟩
      rw [e] at this
      exact .inr (tok_ok h w this)
  · rw [runT_skip]
    show runT [[]] (wsF (spB (wL (.tuple ds)))) = _
    rw [e, run_wL h]
    show some [[rdD (.tuple ds)]] = _
    rw [show rdD (.tuple ds) = .tuple (rdDs ds) from rfl, rdDs_map]
/-! how long -/
theorem wTl_len {k : Nat} : ∀ {ds : List PyData}, (∀ d ∈ ds, (wL d).length ≤ k) → (wTl ds).length ≤ (k + 1) * ds.length
  | [], _ => by simp [wTl]
  | d :: ds, h => by
    have h1 := h d (by simp)
    have h2 := wTl_len (ds := ds) fun e he => h e (List.mem_cons_of_mem _ he)
    show (wL d ++ wTl ds).length + 1 ≤ _
    rw [List.length_append, List.length_cons, Nat.mul_add]
    omega
/-- written, so deep, so long, and read again as it was -/
structure WrF (n k : Nat) (d : PyData) : Prop where
  wr : Wr n d
  len : (wL d).length ≤ k
  fx : rdD d = d
theorem WrF.le {n k m j : Nat} {d : PyData} (h : WrF n k d) (h1 : n ≤ m) (h2 : k ≤ j) : WrF m j d := ⟨h.wr.le h1, Nat.le_trans h.len h2, h.fx⟩
theorem rdDs_fx {ds : List PyData} (h : ∀ d ∈ ds, rdD d = d) : rdDs ds = ds := by
  rw [rdDs_map]
  exact (List.map_congr_left (g := fun d => d) h).trans (List.map_id' ds)
theorem wL_tup_len (ds : List PyData) : (wL (.tuple ds)).length = (wTl ds).tail.length + 2 := by
  show ((wTl ds).tail ++ [41]).length + 1 = _
  rw [List.length_append]
  rfl
theorem tail_le (ds : List PyData) : (wTl ds).tail.length ≤ (wTl ds).length := by
  rw [List.length_tail]
  omega
theorem WrF.tup {n k : Nat} {ds : List PyData} (hl : ds.length ≤ 1000) (h : ∀ d ∈ ds, WrF n k d) : WrF (n + 1) ((k + 1) * ds.length + 2) (.tuple ds) := by
  refine ⟨⟨hl, fun d hd => (h d hd).wr⟩, ?_, ?_⟩
  · rw [wL_tup_len]
    have := wTl_len (ds := ds) fun d hd => (h d hd).len
    have := tail_le ds
    omega
  · show PyData.tuple (rdDs ds) = _
    rw [rdDs_fx fun d hd => (h d hd).fx]
theorem WrF.int {n k : Nat} {i : Int} (h0 : 0 ≤ i) (hk : 0 < k) (h : i.toNat < 10 ^ k) (h8 : i < 100000000) : WrF (n + 1) k (.int i) := ⟨⟨h0, h8⟩, TL.numL_len hk h, rfl⟩
theorem letters_in : ∀ c ∈ lettersL, 97 ≤ c ∧ c ≤ 122 := by decide +kernel
theorem name_wr {n : Nat} {z : Str} (h : isName (.str z) = true) : WrF (n + 1) 8 (.str z) := by
  simp only [isName, Bool.and_eq_true, decide_eq_true_eq, List.all_eq_true] at h
  obtain ⟨⟨h1, h2⟩, h3⟩ := h
  rw [TL.len_tl] at h1 h2
  refine ⟨⟨fun e => by rw [e] at h1; exact absurd h1 (by decide), fun c hc => ⟨(letters_in c (h3 c hc)).1, (letters_in c (h3 c hc)).2, h2⟩⟩, h2, rfl⟩
theorem word_wr {n : Nat} {z : Str} (h : z = "land" ∨ z = "plan" ∨ z = "and" ∨ z = "or" ∨ z = "not") : WrF (n + 1) 4 (.str z) := by
  have k : ∀ z ∈ (["land", "plan", "and", "or", "not"] : List Str), (TL.tl z ≠ [] ∧ ∀ c ∈ TL.tl z, 97 ≤ c ∧ c ≤ 122 ∧ (TL.tl z).length ≤ 8) ∧ (TL.tl z).length ≤ 4 := by decide +kernel
  have hm : z ∈ (["land", "plan", "and", "or", "not"] : List Str) := by simpa using h
  obtain ⟨k1, k2⟩ := k z hm
  exact ⟨k1, k2, rfl⟩
theorem row_wr {a : PyData} {m : Int} (hm : m ≤ 10) (ok : okD a = true) (h : isRow a m = true) : WrF 2 2002 a := by
  unfold isRow at h
  split at h
  · rename_i x xs
    rw [Bool.and_eq_true, List.all_eq_true] at h
    have hl := okD_len ok
    refine (WrF.tup (n := 1) (k := 1) hl fun d hd => ?_).le (Nat.le_refl _) (by omega)
    obtain ⟨i, rfl, i0, i1⟩ := isNum_int (h.1 d hd)
    exact WrF.int i0 (by decide) (by omega) (by omega)
  · cases h
theorem sum_len {n : Nat} : ∀ {es : List PyData}, (∀ e ∈ es, ((wL e).length : Int) + 1 ≤ 2100 * partsOf n e) → ((wTl es).length : Int) ≤ 2100 * (es.map (partsOf n)).sum
  | [], _ => by simp [wTl]
  | d :: ds, h => by
    have h1 := h d (by simp)
    have h2 := sum_len (es := ds) fun e he => h e (List.mem_cons_of_mem _ he)
    show (((wL d ++ wTl ds).length + 1 : Nat) : Int) ≤ _
    rw [List.length_append, List.map_cons, List.sum_cons]
    omega
theorem cond_wr : ∀ {n : Nat} {d : PyData}, okD d = true → partsOf n d ≠ 0 → Wr (n + 2) d ∧ rdD d = d ∧ ((wL d).length : Int) + 1 ≤ 2100 * partsOf n d
  | 0, _, _, h => absurd rfl h
  | n + 1, d, ok, h => by
    obtain ⟨z, a, r, rfl, _⟩ := parts_inv h
    have hl := okD_len ok
    have oka : okD a = true := okD_mem ok (by simp)
    have leaf : ∀ {m : Int}, m ≤ 10 → (z = "land" ∨ z = "plan" ∨ z = "and" ∨ z = "or" ∨ z = "not") → r = [] → isRow a m = true → WrF (n + 3) 2012 (.tuple (.str z :: a :: r)) := fun {m} hm hz hr hra => by
      subst hr
      have wa := row_wr hm oka hra
      have wz := word_wr (n := 0) hz
      refine ⟨⟨hl, fun d hd => ?_⟩, ?_, ?_⟩
      · simp at hd
        rcases hd with e | e
        · rw [e]
          exact wz.wr.le (by omega)
        · rw [e]
          exact wa.wr.le (by omega)
      · have h1 := wz.len
        have h2 := wa.len
        show (40 :: ((wL (.str z) ++ (32 :: (wL a ++ []))) ++ [41])).length ≤ _
        simp only [List.length_cons, List.length_append, List.length_nil]
        omega
      · show PyData.tuple (rdDs [.str z, a]) = _
        rw [rdDs_fx fun d hd => by
          simp at hd
          rcases hd with e | e
          · rw [e]
            exact wz.fx
          · rw [e]
            exact wa.fx]
    by_cases h1 : z = "land"
    · subst h1
      rw [partsOf_land] at h ⊢
      split at h
      · rename_i hc
        rw [if_pos hc]
        rw [Bool.and_eq_true, List.isEmpty_iff] at hc
        have w := leaf (m := 6) (by decide) (.inl rfl) hc.1 hc.2
        exact ⟨w.wr, w.fx, by have := w.len; omega⟩
      · exact absurd rfl h
    · by_cases h2 : z = "plan"
      · subst h2
        rw [partsOf_plan] at h ⊢
        split at h
        · rename_i hc
          rw [if_pos hc]
          rw [Bool.and_eq_true, List.isEmpty_iff] at hc
          have w := leaf (m := 4) (by decide) (.inr (.inl rfl)) hc.1 hc.2
          exact ⟨w.wr, w.fx, by have := w.len; omega⟩
        · exact absurd rfl h
      · rw [partsOf_more h1 h2] at h ⊢
        split at h
        · rename_i hc
          rw [if_pos hc]
          split at h
          · exact absurd rfl h
          · rename_i hn
            rw [if_neg hn]
            have hz : z = "land" ∨ z = "plan" ∨ z = "and" ∨ z = "or" ∨ z = "not" := by
              simp only [Bool.or_eq_true, Bool.and_eq_true, decide_eq_true_eq] at hc
              rcases hc with ⟨hc | hc, _⟩ | ⟨hc, _⟩
              · exact .inr (.inr (.inl hc))
              · exact .inr (.inr (.inr (.inl hc)))
              · exact .inr (.inr (.inr (.inr hc)))
            have wz := word_wr (n := 0) hz
            have each : ∀ e ∈ a :: r, Wr (n + 2) e ∧ rdD e = e ∧ ((wL e).length : Int) + 1 ≤ 2100 * partsOf n e := fun e he => by
              refine cond_wr (okD_mem ok (List.mem_cons_of_mem _ he)) fun e0 => hn ?_
              rw [List.contains_iff_mem]
              exact List.mem_map.mpr ⟨e, he, e0⟩
            refine ⟨⟨hl, fun d hd => ?_⟩, ?_, ?_⟩
            · rcases List.mem_cons.mp hd with e | hd
              · rw [e]
                exact wz.wr.le (by omega)
              · exact (each d hd).1.le (by omega)
            · show PyData.tuple (rdDs _) = _
              rw [rdDs_fx fun d hd => by
                rcases List.mem_cons.mp hd with e | hd
                · rw [e]
                  exact wz.fx
                · exact (each d hd).2.1]
            · have h3 := sum_len fun e he => (each e he).2.2
              have h4 := wz.len
              have e5 : (wL (.tuple (.str z :: a :: r))).length = (wL (.str z)).length + (wTl (a :: r)).length + 2 := by
                show (40 :: ((wL (.str z) ++ wTl (a :: r)) ++ [41])).length = _
                simp only [List.length_cons, List.length_append, List.length_nil] <;> omega
              rw [e5]
              omega
        · exact absurd rfl h
theorem isCond_wr {c : PyData} (ok : okD c = true) (h : isCond c = true) : WrF 7 84000 c := by
  simp only [isCond, Bool.and_eq_true, decide_eq_true_eq] at h
  obtain ⟨a, b, c⟩ := cond_wr (n := 5) ok (by omega)
  exact ⟨a, by omega, b⟩
theorem rules_wr {d : PyData} (ok : okD d = true) (h : areRules d = true) : WrF 9 510000 d := by
  unfold areRules at h
  split at h
  · rename_i ds
    rw [Bool.and_eq_true, decide_eq_true_eq, List.all_eq_true] at h
    refine (WrF.tup (n := 8) (k := 84020) (by omega) fun d hd => ?_).le (Nat.le_refl _) (by omega)
    obtain ⟨c, m, rfl, hc, m0, m1⟩ := isRule_inv (h.2 d hd)
    have okd := okD_mem ok hd
    have wc := isCond_wr (okD_mem okd (by simp)) hc
    have wm : WrF 1 3 (.int m) := WrF.int m0 (by decide) (by omega) (by omega)
    refine ⟨⟨by simp, fun e he => ?_⟩, ?_, ?_⟩
    · simp at he
      rcases he with e | e
      · rw [e]
        exact wc.wr
      · rw [e]
        exact wm.wr.le (by decide)
    · have h1 := wc.len
      have h2 := wm.len
      show (40 :: ((wL c ++ (32 :: (wL (.int m) ++ []))) ++ [41])).length ≤ _
      simp only [List.length_cons, List.length_append, List.length_nil]
      omega
    · show PyData.tuple [rdD c, rdD (.int m)] = _
      rw [wc.fx, wm.fx]
  · cases h
theorem deal_wr {d : PyData} (h : isDeal d = true) : WrF 2 8 d := by
  obtain ⟨s, t, rfl, s0, s1, t0, t1, _⟩ := isDeal_is h
  refine (WrF.tup (n := 1) (k := 2) (by simp) fun d hd => ?_).le (Nat.le_refl _) (by simp)
  simp at hd
  rcases hd with e | e
  · rw [e]
    exact WrF.int s0 (by decide) (by omega) (by omega)
  · rw [e]
    exact WrF.int t0 (by decide) (by omega) (by omega)
theorem row_dat_wr {t : Tab} {n : Str} {r : BRow} (ok : TabOk t) (e : rowOf t n = some r) : Wr 10 r.dat ∧ (wL r.dat).length ≤ 511000 ∧ rdD r.dat = .tuple [r.deal, r.rules, .tuple (r.needs.map PyData.str), .int (if r.dim = true then 1 else 0)] := by
  have hr := ok.row n r e
  have w1 := deal_wr hr.deal
  have w2 := rules_wr hr.ok hr.rules
  have hn := needs_len ok e
  have w3 : WrF 2 200 (.tuple (r.needs.map PyData.str)) := (WrF.tup (n := 1) (k := 8) (by rw [List.length_map]; omega) fun d hd => by
    obtain ⟨m, hm, rfl⟩ := List.mem_map.mp hd
    exact name_wr (ok.nm m (hr.mem m hm))).le (Nat.le_refl _) (by rw [List.length_map]; omega)
  have w4 : (wL (.bool r.dim)).length ≤ 1 := TL.numL_len (by decide) (by split <;> decide)
  refine ⟨⟨by simp, fun d hd => ?_⟩, ?_, ?_⟩
  · simp at hd
    rcases hd with e | e | e | e
    · rw [e]
      exact w1.wr.le (by decide)
    · rw [e]
      exact w2.wr
    · rw [e]
      exact w3.wr.le (by decide)
    · rw [e]
      exact trivial
  · have h1 := w1.len
    have h2 := w2.len
    have h3 := w3.len
    show (40 :: ((wL r.deal ++ (32 :: (wL r.rules ++ (32 :: (wL (.tuple (r.needs.map PyData.str)) ++ (32 :: (wL (.bool r.dim) ++ []))))))) ++ [41])).length ≤ _
    simp only [List.length_cons, List.length_append, List.length_nil]
    omega
  · show PyData.tuple [rdD r.deal, rdD r.rules, rdD (.tuple (r.needs.map PyData.str)), _] = _
    rw [w1.fx, w2.fx, w3.fx]
    rfl
def spWrittenR (K : PySem.W.Frag) (n : Nat) : Sp := fun vs H Q _ => ∃ (v : V) (d : PyData) (m : Nat), vs = [v] ∧ Dp K H v d ∧ Wr m d ∧ m < n ∧ (wL d).length ≤ 1000000 ∧ ∀ H', Same H H' → Q (.str (wS d)) H'
theorem wL_in : ∀ {ds : List PyData} {d : PyData}, d ∈ ds → (wL d).length + 1 ≤ (wTl ds).length
  | e :: ds, d, h => by
    show _ ≤ (wL e ++ wTl ds).length + 1
    rw [List.length_append]
    rcases List.mem_cons.mp h with e | h
    · rw [e]
      omega
    · have := wL_in h
      omega
theorem sum_wS : ∀ ds : List PyData, ((ds.map wS).map (·.length)).sum + ds.length = (wTl ds).length
  | [] => rfl
  | d :: ds => by
    have ih := sum_wS ds
    have e := wS_len d
    show (wS d).length + ((ds.map wS).map (·.length)).sum + (ds.length + 1) = (wL d ++ wTl ds).length + 1
    rw [List.length_append]
    omega
theorem wS_tup (ds : List PyData) : ("(" : Str) ++ Txt.join " " (ds.map wS) ++ ")" = wS (.tuple ds) := by
  refine TL.ext_tl ?_
  rw [TL.tl_append, TL.tl_append, TL.join_eq, TL.tl_join, List.map_map]
  show [40] ++ TL.joinL [32] (ds.map wL) ++ [41] = 40 :: ((wTl ds).tail ++ [41])
  rw [wTl_tail]
  rfl
theorem wS_int {n : Nat} : (toString ((n : Nat) : Int) : Str) = ⟨(TL.numL n).toArray⟩ := TL.ext_tl (TL.tl_num n)
theorem log_small {i : Int} (h0 : 0 ≤ i) (h : i < 100000000) : i.natAbs.log2 < 1920 := by
  rcases Nat.eq_zero_or_pos i.natAbs with e | e
  · rw [e]
    decide
  · rw [Nat.log2_lt (by omega)]
    have : (100000000 : Nat) ≤ 2 ^ 1920 := Nat.le_trans (by decide : 100000000 ≤ 2 ^ 27) (Nat.pow_le_pow_right (by decide) (by decide))
    omega
def spNeedT (K : PySem.W.Frag) : Sp := fun vs H Q E => ∃ b : Bool, vs = [.bl b] ∧ (b = true → Q .non H) ∧ (b = false → E (.ref (He.ga K "BadText")) none H)
/-- all of a switch -/
def datOf (t : Tab) (n : Str) : PyData := match rowOf t n with
  | some r => r.dat
  | none => .none
/-- a switch as signs -/
def rowL (t : Tab) (n : Str) : List Nat := TL.tl n ++ (61 :: (wL (datOf t n) ++ [59]))
/-- a board as signs -/
def savL (t : Tab) (ys : List Str) : List Nat := ys.flatMap (rowL t) ++ [46]
def savS (t : Tab) (ys : List Str) : Str := ⟨(savL t ys).toArray⟩
def rowS (t : Tab) (n : Str) : Str := ⟨(rowL t n).toArray⟩
def spSaved (K : PySem.W.Frag) : Sp := fun vs H Q _ => ∃ (b L : Addr) (N : Addr → Prop) (t : Tab) (past : List Tab), vs = [.ref b] ∧ BrdAt K N H b L t past ∧ ∀ ys H', SrtT t ys → Same H H' → Q (.str (savS t ys)) H'
theorem datOf_wr {t : Tab} {n : Str} (ok : TabOk t) (hn : n ∈ namesT t) : Wr 10 (datOf t n) ∧ (wL (datOf t n)).length ≤ 511000 := by
  obtain ⟨r, e⟩ := rowOf_some.mpr hn
  obtain ⟨h1, h2, _⟩ := row_dat_wr ok e
  unfold datOf
  rw [e]
  exact ⟨h1, h2⟩
theorem rowL_len {t : Tab} {n : Str} (ok : TabOk t) (hn : n ∈ namesT t) : (rowL t n).length ≤ 511010 := by
  have h1 := name_len (ok.nm n hn)
  have h2 := (datOf_wr ok hn).2
  rw [TL.len_tl] at h1
  unfold rowL
  simp only [List.length_append, List.length_cons, List.length_nil]
  omega
theorem join_nil : ∀ ys : List Str, TL.tl (Txt.join "" ys) = (ys.map TL.tl).flatten := fun ys => by
  rw [TL.join_eq, TL.tl_join]
  show TL.joinL [] (ys.map TL.tl) = _
  generalize ys.map TL.tl = l
  induction l with
  | nil => rfl
  | cons p l ih =>
    cases l with
    | nil => simp [TL.joinL]
    | cons q r =>
      show p ++ ([] ++ TL.joinL [] (q :: r)) = _
      rw [ih]
      rfl
theorem savS_eq (t : Tab) (ys : List Str) : Txt.join "" (ys.map (rowS t)) ++ ("." : Str) = savS t ys := by
  refine TL.ext_tl ?_
  rw [TL.tl_append, join_nil, List.map_map]
  show (ys.map (rowL t)).flatten ++ [46] = ys.flatMap (rowL t) ++ [46]
  rw [List.flatMap_def]
theorem rows_sum {t : Tab} : ∀ {ys : List Str}, TabOk t → (∀ n ∈ ys, n ∈ namesT t) → ((ys.map (rowS t)).map (·.length)).sum ≤ 511010 * ys.length
  | [], _, _ => by simp
  | n :: ys, ok, h => by
    have h1 := rowL_len ok (h n (by simp))
    have h2 := rows_sum (ys := ys) ok fun m hm => h m (List.mem_cons_of_mem _ hm)
    have e : (rowS t n).length = (rowL t n).length := TL.len_tl _
    rw [List.map_cons, List.map_cons, List.sum_cons, List.length_cons, e, Nat.mul_add]
    omega
theorem join_nil_len (ys : List Str) : (Txt.join "" ys).length = (ys.map (·.length)).sum := by
  rw [TL.len_tl, join_nil, List.length_flatten, List.map_map]
  congr 1
def figsL : List Nat := ("0123456789" : Str).cps.toList
theorem figs_iff {c : Nat} : c ∈ figsL ↔ 48 ≤ c ∧ c ≤ 57 := by
  have e : figsL = [48, 49, 50, 51, 52, 53, 54, 55, 56, 57] := by decide +kernel
  rw [e]
  simp only [List.mem_cons, List.not_mem_nil, or_false]
  omega
theorem okW_len {w : List Nat} (h : okW w) : w.length ≤ 8 := by
  rcases h with ⟨n, hn, rfl⟩ | ⟨h1, h2⟩
  · exact TL.numL_len (by decide) hn
  · cases w with
    | nil => exact absurd rfl h1
    | cons c w => exact (h2 c (by simp)).2.2
theorem okW_figs {w : List Nat} (h : okW w) : (∃ n : Nat, n < 100000000 ∧ w = TL.numL n ∧ (w.all fun c => decide (c ∈ figsL)) = true) ∨ ((w ≠ [] ∧ ∀ c ∈ w, 97 ≤ c ∧ c ≤ 122 ∧ w.length ≤ 8) ∧ (w.all fun c => decide (c ∈ figsL)) = false) := by
  rcases h with ⟨n, hn, rfl⟩ | h
  · refine .inl ⟨n, hn, rfl, ?_⟩
    rw [List.all_eq_true]
    exact fun c hc => decide_eq_true (figs_iff.mpr (TL.numL_digits n c hc))
  · refine .inr ⟨h, ?_⟩
    obtain ⟨h1, h2⟩ := h
    cases w with
    | nil => exact absurd rfl h1
    | cons c w =>
      have := h2 c (by simp)
      rw [List.all_cons, decide_eq_false (fun e => by have := figs_iff.mp e; omega), Bool.false_and]
def spRdWord (K : PySem.W.Frag) : Sp := fun vs H Q _ => ∃ z : Str, vs = [.str z] ∧ okW (TL.tl z) ∧ ∀ v H', Same H H' → Dp K H' v (readW (TL.tl z)) → Q v H'
def spRead (K : PySem.W.Frag) : Sp := fun vs H Q _ => ∃ (z : Str) (ds : List PyData), vs = [.str z] ∧ z.length ≤ 1000000 ∧ RdOk (TL.tl z) ds ∧ ∀ v H', Same H H' → Dp K H' v (.tuple ds) → Q v H'
/-! the rows in the heap -/
inductive RowsAt (K : PySem.W.Frag) (H : Hp) : List Addr → List (List PyData) → Prop
  | nil : RowsAt K H [] []
  | cons {a : Addr} {vs : List V} {r : List PyData} {as : List Addr} {st : List (List PyData)} (h : H a = some (.lst vs)) (d : DpAll K H vs r) (im : immAll r = true) (tl : RowsAt K H as st) : RowsAt K H (a :: as) (r :: st)
theorem RowsAt.len {K : PySem.W.Frag} {H : Hp} {as : List Addr} {st : List (List PyData)} (h : RowsAt K H as st) : as.length = st.length := by
  induction h with
  | nil => rfl
  | cons _ _ _ _ ih => rw [List.length_cons, List.length_cons, ih]
theorem RowsAt.s {K : PySem.W.Frag} {H H1 : Hp} {as : List Addr} {st : List (List PyData)} (h : RowsAt K H as st) (s : Same H H1) : RowsAt K H1 as st := by
  induction h with
  | nil => exact .nil
  | cons h d im _ ih => exact .cons (s _ _ h) (dps_s s d) im ih
theorem RowsAt.put {K : PySem.W.Frag} {H : Hp} {x : Addr} {xs ys : List V} {as : List Addr} {st : List (List PyData)} (h : RowsAt K H as st) (hx : H x = some (.lst xs)) (nx : x ∉ as) : RowsAt K (upd H x (.lst ys)) as st := by
  induction h with
  | nil => exact .nil
  | @cons a vs r as st h d im _ ih =>
    rw [List.mem_cons, not_or] at nx
    exact .cons (by rw [upd_ne (Ne.symm nx.1)]; exact h) (dpAll_mut hx im d) im (ih nx.2)
/-- the stack at RL, its rows at as; the words at WL -/
structure StkAt (K : PySem.W.Frag) (H0 H : Hp) (WL RL : Addr) (wvs : List V) (as : List Addr) (st : List (List PyData)) : Prop where
  fr : Same H0 H
  hw : H WL = some (.lst wvs)
  rw : RL ≠ WL
  rn : H0 RL = none
  rl : H RL = some (.lst (as.reverse.map V.ref))
  nd : as.Nodup
  an : ∀ a ∈ as, a ≠ RL ∧ a ≠ WL ∧ H0 a = none
  rows : RowsAt K H as st
section
variable {K : PySem.W.Frag} {H0 H H1 : Hp} {WL RL : Addr} {wvs : List V} {as : List Addr} {st : List (List PyData)}
theorem StkAt.same (h : StkAt K H0 H WL RL wvs as st) (s : Same H H1) : StkAt K H0 H1 WL RL wvs as st := ⟨h.fr.trans s, s _ _ h.hw, h.rw, h.rn, s _ _ h.rl, h.nd, h.an, h.rows.s s⟩
theorem StkAt.push {p : Addr} (h : StkAt K H0 H WL RL wvs as st) (s : Same H H1) (np : H p = none) (hp : H1 p = some (.lst [])) : StkAt K H0 (upd H1 RL (.lst (as.reverse.map V.ref ++ [.ref p]))) WL RL wvs (p :: as) ([] :: st) := by
  have nR : p ≠ RL := fun e => by rw [e, h.rl] at np; cases np
  have nW : p ≠ WL := fun e => by rw [e, h.hw] at np; cases np
  have na : p ∉ as := fun hm => by
    have : ∀ {as : List Addr} {st : List (List PyData)}, RowsAt K H as st → p ∈ as → False := fun r => by
      induction r with
      | nil => exact fun z => by cases z
      | cons h _ _ _ ih =>
        intro hm
        rcases List.mem_cons.mp hm with e | hm
        · rw [e, h] at np
          cases np
        · exact ih hm
    exact this h.rows hm
  have h1 := h.same s
  refine ⟨fun x o hx => ?_, by rw [upd_ne h.rw.symm]; exact h1.hw, h.rw, h.rn, by rw [upd_same, List.reverse_cons, List.map_append]; rfl, List.nodup_cons.mpr ⟨na, h.nd⟩, fun a ha => ?_, ?_⟩
  · rw [upd_ne (fun e => by rw [e, h.rn] at hx; cases hx)]
    exact h1.fr _ _ hx
  · rcases List.mem_cons.mp ha with e | ha
    · rw [e]
      exact ⟨nR, nW, h.fr.free np⟩
    · exact h.an a ha
  · exact .cons (by rw [upd_ne nR]; exact hp) .nil rfl (h1.rows.put h1.rl fun hm => (h.an _ hm).1 rfl)
theorem StkAt.app {a : Addr} {r : List PyData} {v : V} {d : PyData} (h : StkAt K H0 H WL RL wvs (a :: as) (r :: st)) (hv : Dp K H v d) (im : imm d = true) : ∃ vs, H a = some (.lst vs) ∧ vs.length = r.length ∧ StkAt K H0 (upd H a (.lst (vs ++ [v]))) WL RL wvs (a :: as) ((r ++ [d]) :: st) := by
  cases h.rows with
  | @cons _ vs _ _ _ ha hd him tl =>
  obtain ⟨n1, n2, n3⟩ := h.an a (by simp)
  have nd := List.nodup_cons.mp h.nd
  refine ⟨vs, ha, dpAll_len hd, fun x o hx => ?_, by rw [upd_ne n2.symm]; exact h.hw, h.rw, h.rn, by rw [upd_ne n1.symm]; exact h.rl, h.nd, h.an, ?_⟩
  · rw [upd_ne (fun e => by rw [e, n3] at hx; cases hx)]
    exact h.fr _ _ hx
  · have him2 : immAll (r ++ [d]) = true := immAll_mem fun e he => by
      rcases List.mem_append.mp he with he | he
      · exact immAll_get him he
      · rw [List.mem_singleton.mp he]
        exact im
    exact .cons upd_same (dpAll_mut ha him2 (dpAll_app hd (.cons hv .nil))) him2 (tl.put ha nd.1)
theorem StkAt.pop {a : Addr} {r : List PyData} (h : StkAt K H0 H WL RL wvs (a :: as) (r :: st)) : ∃ vs, H a = some (.lst vs) ∧ StkAt K H0 (upd H RL (.lst (as.reverse.map V.ref))) WL RL wvs as st ∧ (upd H RL (.lst (as.reverse.map V.ref))) a = some (.lst vs) ∧ DpAll K (upd H RL (.lst (as.reverse.map V.ref))) vs r ∧ immAll r = true := by
  cases h.rows with
  | @cons _ vs _ _ _ ha hd him tl =>
  obtain ⟨n1, n2, n3⟩ := h.an a (by simp)
  have nd := List.nodup_cons.mp h.nd
  refine ⟨vs, ha, ⟨fun x o hx => ?_, by rw [upd_ne h.rw.symm]; exact h.hw, h.rw, h.rn, upd_same, nd.2, fun b hb => h.an b (List.mem_cons_of_mem _ hb), tl.put h.rl fun hm => (h.an _ (List.mem_cons_of_mem _ hm)).1 rfl⟩, by rw [upd_ne n1]; exact ha, dpAll_mut h.rl him hd, him⟩
  rw [upd_ne (fun e => by rw [e, h.rn] at hx; cases hx)]
  exact h.fr _ _ hx
end
theorem run_step {ws : List (List Nat)} {st s fin : List (List PyData)} {i : Nat} {w : List Nat} (h : runT st ws = some fin) (h1 : runT st (ws.take i) = some s) (hw : ws[i]? = some w) : ∃ s', stepT s w = some s' ∧ runT st (ws.take (i + 1)) = some s' := by
  have e1 : ws.take (i + 1) = ws.take i ++ [w] := by rw [List.take_add_one, hw]; rfl
  have e2 : runT st (ws.take (i + 1)) = stepT s w := by
    rw [e1, runT_app, h1]
    show (stepT s w).bind (fun st' => runT st' []) = _
    cases stepT s w <;> rfl
  cases e3 : stepT s w with
  | some s' => exact ⟨s', rfl, by rw [e2, e3]⟩
  | none =>
    rw [← List.take_append_drop (i + 1) ws, runT_app, e2, e3] at h
    cases h
theorem step_len {s s' : List (List PyData)} {w : List Nat} {n m : Nat} (h : stepT s w = some s') (h1 : s.length ≤ n) (h2 : ∀ r ∈ s, r.length ≤ m) : s'.length ≤ n + 1 ∧ ∀ r ∈ s', r.length ≤ m + 1 := by
  have h2' : ∀ r ∈ s, r.length ≤ m + 1 := fun r hr => Nat.le_succ_of_le (h2 r hr)
  unfold stepT at h
  split at h
  · cases h
    refine ⟨by rw [List.length_cons]; omega, fun r hr => ?_⟩
    rcases List.mem_cons.mp hr with e | hr
    · rw [e]
      exact Nat.zero_le _
    · exact h2' r hr
  · split at h
    · split at h
      · cases h
        rename_i r q more
        rw [List.length_cons, List.length_cons] at h1
        refine ⟨by rw [List.length_cons]; omega, fun x hx => ?_⟩
        rcases List.mem_cons.mp hx with e | hx
        · have := h2 q (by simp)
          rw [e, List.length_append]
          exact Nat.succ_le_succ this
        · exact h2' x (by simp [hx])
      · cases h
    · split at h
      · cases h
        exact ⟨by omega, h2'⟩
      · split at h
        · cases h
          rename_i r more
          rw [List.length_cons] at h1
          refine ⟨by rw [List.length_cons]; omega, fun x hx => ?_⟩
          rcases List.mem_cons.mp hx with e | hx
          · have := h2 r (by simp)
            rw [e, List.length_append]
            exact Nat.succ_le_succ this
          · exact h2' x (by simp [hx])
        · cases h
theorem words_of {z : Str} : (Txt.split (Txt.replace (Txt.replace z "(" " ( ") ")" " ) ") " ").map TL.tl = TL.spl [32] 0 [] (spB (TL.tl z)) := by
  have e0 : ("(" : Str) = ⟨#[40]⟩ := by decide +kernel
  have e1 : (")" : Str) = ⟨#[41]⟩ := by decide +kernel
  have e2 : TL.tl (" " : Str) = [32] := by decide +kernel
  have e3 : TL.tl (" ( " : Str) = [32, 40, 32] := by decide +kernel
  have e4 : TL.tl (" ) " : Str) = [32, 41, 32] := by decide +kernel
  rw [TL.split_spl _ _ (by rw [e2]; simp) (TL.kind_ok (by decide +kernel)), e2, e1, tl_replace (by decide), e0, tl_replace (by decide), e3, e4, spB_two]
theorem w_repl {to : TE} {y z : Str} {σ : L2.St} {H : Hp} {Q : VK} (h : to σ H fun v H1 => ∃ x, v = .str x ∧ x.length + (x.length + 1) * z.length ≤ 16777216 ∧ Q (.str (Txt.replace x y z)) H1) : CwR.tReplC to y z σ H Q := h
theorem at_last2 (l : List V) (x : V) : atI (l ++ [x]) (-1) = some x := by
  have e : ixN (l ++ [x]).length (-1) = some l.length := by
    unfold ixN
    rw [List.length_append, List.length_singleton, if_neg (by decide), if_pos (by omega)]
    congr 1
    omega
  unfold atI
  rw [e]
  simp
theorem readW_imm (w : List Nat) : imm (readW w) = true := by
  unfold readW
  split <;> rfl
/-- what ends by no dot, or is no text -/
def noEnd : PyData → Prop
  | .str z => (TL.tl z).getLast? ≠ some 46
  | _ => True
def fitW : PyData → Prop
  | .str z => z.length ≤ 8000000
  | _ => True
def spWoken (K : PySem.W.Frag) : Sp := fun vs H Q E => ∃ (v : V) (d : PyData), vs = [v] ∧ Dp K H v d ∧ fitW d ∧ ((noEnd d ∧ ∀ H', Same H H' → E (.ref (He.ga K "BadText")) none H') ∨
  ∃ (t : Tab) (ys : List Str), d = .str (savS t ys) ∧ TabOk t ∧ SrtT t ys ∧ ∀ b L t2 H', Same H H' → H b = none → H L = none → BrdAt K (fun x => ∃ o, H x = some o) H' b L t2 [] → namesT t2 = ys → (∀ n, rowOf t2 n = rowOf t n) → Q (.ref b) H')
theorem tl_last (z : Str) : TL.tl (cutS z (some (-1)) none) = (TL.tl z).drop ((TL.tl z).length - 1) := by
  have e : z.length = (TL.tl z).length := TL.len_tl z
  have e1 : HT.sIx z.length 0 (some (-1)) = (TL.tl z).length - 1 := by
    unfold HT.sIx
    dsimp only
    split <;> omega
  show ((TL.tl z).drop (HT.sIx z.length 0 (some (-1)))).take (HT.sIx z.length z.length none - HT.sIx z.length 0 (some (-1))) = _
  rw [e1, HT.sIx_none, e, List.take_of_length_le (by rw [List.length_drop]; omega)]
theorem tl_butl (z : Str) : TL.tl (cutS z none (some (-1))) = (TL.tl z).dropLast := by
  have e : z.length = (TL.tl z).length := TL.len_tl z
  have e1 : HT.sIx z.length z.length (some (-1)) = (TL.tl z).length - 1 := by
    unfold HT.sIx
    dsimp only
    split <;> omega
  show ((TL.tl z).drop (HT.sIx z.length 0 none)).take (HT.sIx z.length z.length (some (-1)) - HT.sIx z.length 0 none) = _
  rw [e1, HT.sIx_none, List.drop_zero, Nat.sub_zero, List.dropLast_eq_take]
theorem cutV_butl (xs : List V) : cutV xs none (some (-1)) = xs.dropLast := by
  have e1 : HT.sIx xs.length xs.length (some (-1)) = xs.length - 1 := by
    unfold HT.sIx
    dsimp only
    split <;> omega
  show (xs.drop (HT.sIx xs.length 0 none)).take (HT.sIx xs.length xs.length (some (-1)) - HT.sIx xs.length 0 none) = _
  rw [e1, HT.sIx_none, List.drop_zero, Nat.sub_zero, List.dropLast_eq_take]
theorem dot_is : ("." : Str) = ⟨[46].toArray⟩ := by decide +kernel
theorem last_dot {z : Str} : decide (cutS z (some (-1)) none = ("." : Str)) = decide ((TL.tl z).getLast? = some 46) := by
  refine decide_eq_decide.mpr ?_
  have k : (TL.tl z).drop ((TL.tl z).length - 1) = [46] ↔ (TL.tl z).getLast? = some 46 := by
    rcases List.eq_nil_or_concat (TL.tl z) with e | ⟨l, c, e⟩
    · rw [e]
      simp
    · rw [e, List.concat_eq_append, List.getLast?_concat]
      simp
  rw [← k, ← tl_last, dot_is]
  constructor
  · intro h
    rw [h]
  · intro h
    exact TL.ext_tl h
theorem savL_last (t : Tab) (ys : List Str) : (savL t ys).getLast? = some 46 := by
  unfold savL
  rw [List.getLast?_concat]
/-- a switch as signs, without its end -/
def rowQ (t : Tab) (n : Str) : List Nat := TL.tl n ++ 61 :: wL (datOf t n)
theorem rowL_eq (t : Tab) (n : Str) : rowL t n = rowQ t n ++ [59] := by
  unfold rowL rowQ
  simp
theorem name_free {t : Tab} {n : Str} (ok : TabOk t) (hn : n ∈ namesT t) : ∀ c ∈ TL.tl n, 97 ≤ c ∧ c ≤ 122 := fun c hc => by
  have := (name_wr (n := 0) (ok.nm n hn)).wr.2 c hc
  exact ⟨this.1, this.2.1⟩
theorem rowQ_free {t : Tab} {n : Str} (ok : TabOk t) (hn : n ∈ namesT t) : 59 ∉ rowQ t n ∧ 46 ∉ rowQ t n := by
  have h1 := name_free ok hn
  have h2 := wL_sign (datOf_wr ok hn).1
  have key : ∀ c ∈ rowQ t n, c ≠ 59 ∧ c ≠ 46 := fun c hc => by
    rcases List.mem_append.mp hc with hc | hc
    · have := h1 c hc
      omega
    · rcases List.mem_cons.mp hc with e | hc
      · omega
      · have := h2 c hc
        unfold signOk at this
        omega
  exact ⟨fun h => (key _ h).1 rfl, fun h => (key _ h).2 rfl⟩
theorem spl_rows {t : Tab} : ∀ {ys : List Str}, TabOk t → (∀ n ∈ ys, n ∈ namesT t) → TL.spl [59] 0 [] (ys.flatMap (rowL t)) = ys.map (rowQ t) ++ [[]]
  | [], _, _ => rfl
  | n :: ys, ok, h => by
    have h1 := (rowQ_free ok (h n (by simp))).1
    have h2 := spl_rows (ys := ys) ok fun m hm => h m (List.mem_cons_of_mem _ hm)
    have e : (n :: ys).flatMap (rowL t) = rowQ t n ++ ([59] ++ ys.flatMap (rowL t)) := by
      rw [List.flatMap_cons, rowL_eq]
      simp
    rw [e]
    have := TL.spl_part1 (s := 59) (S := []) (p := rowQ t n) (rest := ys.flatMap (rowL t)) (acc := []) h1
    rw [this, h2]
    rfl
def rowT (t : Tab) (n : Str) : Str := ⟨(rowQ t n).toArray⟩
theorem split_rows {t : Tab} {ys : List Str} {z : Str} (ok : TabOk t) (h : ∀ n ∈ ys, n ∈ namesT t) (hz : TL.tl z = ys.flatMap (rowL t)) : Txt.split z ";" = ys.map (rowT t) ++ [Str.empty] := by
  have e2 : TL.tl (";" : Str) = [59] := by decide +kernel
  refine TL.map_tl_inj ?_
  rw [TL.split_spl _ _ (by rw [e2]; simp) (TL.kind_ok (by decide +kernel)), e2, hz, spl_rows ok h, List.map_append, List.map_map]
  rfl
theorem part_row {t : Tab} {n : Str} (ok : TabOk t) (hn : n ∈ namesT t) : Txt.partition (rowT t n) "=" = (n, ("=" : Str), wS (datOf t n)) := by
  have e2 : TL.tl ("=" : Str) = [61] := by decide +kernel
  have e : rowT t n = n ++ ("=" : Str) ++ wS (datOf t n) := TL.ext_tl (by
    rw [TL.tl_append, TL.tl_append, e2]
    show TL.tl n ++ 61 :: wL (datOf t n) = TL.tl n ++ [61] ++ wL (datOf t n)
    simp)
  rw [e]
  exact TL.partition_app e2 fun h => by have := name_free ok hn 61 h; omega
theorem before_last {t : Tab} {ys : List Str} (h : ys ≠ []) : atI (savL t ys) (-2) = some 59 := by
  obtain ⟨l, n, rfl⟩ : ∃ l n, ys = l ++ [n] := ⟨ys.dropLast, ys.getLast h, (List.dropLast_concat_getLast h).symm⟩
  have e : savL t (l ++ [n]) = (l.flatMap (rowL t) ++ rowQ t n) ++ [59, 46] := by
    unfold savL
    rw [List.flatMap_append, List.flatMap_cons, rowL_eq]
    simp
  rw [e]
  generalize l.flatMap (rowL t) ++ rowQ t n = m
  have e1 : ixN (m ++ [59, 46]).length (-2) = some m.length := by
    unfold ixN
    rw [List.length_append, if_neg (by decide), if_pos (by simp; omega)]
    congr 1
    simp
    omega
  unfold atI
  rw [e1]
  simp
theorem savS_dot {t : Tab} {ys : List Str} : decide (savS t ys = ("." : Str)) = true ∨ ys ≠ [] := by
  cases ys with
  | nil => exact .inl (decide_eq_true dot_is.symm)
  | cons n ys => exact .inr (by simp)
theorem savS_len {t : Tab} {ys : List Str} (ok : TabOk t) (y : SrtT t ys) : (savS t ys).length ≤ 8000000 := by
  have h1 := rows_sum ok fun n hn => y.mem.mp hn
  have h2 := join_nil_len (ys.map (rowS t))
  have h3 := y.len
  have h4 := ok.len
  rw [← savS_eq, Str.length_append]
  show _ + 1 ≤ _
  omega
theorem rd_row {t : Tab} {n : Str} {r : BRow} (ok : TabOk t) (e : rowOf t n = some r) : RdOk (wL (datOf t n)) [r.deal, r.rules, .tuple (r.needs.map PyData.str), .int (if r.dim = true then 1 else 0)] := by
  obtain ⟨h1, _, h3⟩ := row_dat_wr ok e
  have ed : datOf t n = r.dat := by
    unfold datOf
    rw [e]
  have k := rd_ok (ds := [r.deal, r.rules, .tuple (r.needs.map PyData.str), .bool r.dim]) h1
  have h3 : PyData.tuple (rdDs [r.deal, r.rules, .tuple (r.needs.map PyData.str), .bool r.dim]) = _ := h3
  rw [rdDs_map] at h3
  injection h3 with h3
  rw [h3] at k
  rw [ed]
  exact k
theorem seq_mid {s r : TS} {D : Ends} {σ : L2.St} {H : Hp} (I : L2.St → Hp → Prop) (h : ∀ R : L2.St → Hp → Prop, (∀ σ H, I σ H → R σ H) → s { D with nx := R } σ H) (q : ∀ σ H, I σ H → r D σ H) : tSeq s r D σ H := w_seq (h _ q)
/-! the tables on the way -/
def bareR (r : BRow) : BRow := ⟨r.deal, r.rules, [], false⟩
structure Put1 (t : Tab) (ys : List Str) (u : Tab) (i : Nat) : Prop where
  nm : namesT u = ys.take i
  row : ∀ n r, rowOf t n = some r → n ∈ ys.take i → rowOf u n = some (bareR r)
theorem put1_step {t u : Tab} {ys : List Str} {i : Nat} {z : Str} {r : BRow} (ok : TabOk t) (y : SrtT t ys) (h : Put1 t ys u i) (hz : ys[i]? = some z) (er : rowOf t z = some r) : putR u (.str z) r.deal r.rules = .ok (putT u z (bareR r)) ∧ Put1 t ys (putT u z (bareR r)) (i + 1) := by
  have hzm := rowOf_mem er
  have hnd : ys.Nodup := y.perm.nodup_iff.mpr ok.nd
  have etk : ys.take (i + 1) = ys.take i ++ [z] := by rw [List.take_add_one, hz]; rfl
  have hnot : z ∉ ys.take i := fun hm => by
    have := hnd.sublist (List.take_sublist (i + 1) ys)
    rw [etk, List.nodup_append] at this
    exact this.2.2 z hm z (by simp) rfl
  have hil : i < ys.length := (List.getElem?_eq_some_iff.mp hz).1
  have hul : u.length = i := by
    have := congrArg List.length h.nm
    rw [len_names, List.length_take] at this
    omega
  have hyl := y.len
  have htl := ok.len
  have hr := ok.row z r er
  refine ⟨?_, ?_, fun n s en hm => ?_⟩
  · unfold putR
    simp only [ok.nm z hzm, hr.deal, hr.rules, Bool.true_eq_false, if_false]
    rw [if_neg (by rw [h.nm]; exact hnot), if_neg (by omega)]
    rfl
  · rw [names_put, if_neg (by rw [h.nm]; exact hnot), h.nm, etk]
  · rw [rowOf_put]
    by_cases e : n = z
    · rw [if_pos e]
      rw [e, er] at en
      cases en
      rfl
    · rw [if_neg e]
      rw [etk] at hm
      rcases List.mem_append.mp hm with hm | hm
      · exact h.row n s en hm
      · exact absurd (List.mem_singleton.mp hm) e
structure Put2 (t : Tab) (ys : List Str) (u : Tab) (i : Nat) : Prop where
  nm : namesT u = ys
  row : ∀ n r, rowOf t n = some r → rowOf u n = some (if n ∈ ys.take i then r else bareR r)
theorem Put1.two {t u : Tab} {ys : List Str} (y : SrtT t ys) (h : Put1 t ys u ys.length) : Put2 t ys u 0 := by
  refine ⟨by rw [h.nm, List.take_length], fun n r e => ?_⟩
  rw [if_neg (by simp)]
  exact h.row n r e (by rw [List.take_length]; exact y.mem.mpr (rowOf_mem e))
theorem Put2.back {t u : Tab} {ys : List Str} {i : Nat} (y : SrtT t ys) (h : Put2 t ys u i) {n : Str} {s : BRow} (e : rowOf u n = some s) : ∃ r, rowOf t n = some r ∧ ∀ m ∈ s.needs, m ∈ r.needs := by
  have hm : n ∈ namesT t := by
    have := rowOf_mem e
    rw [h.nm] at this
    exact y.mem.mp this
  obtain ⟨r, er⟩ := rowOf_some.mpr hm
  refine ⟨r, er, fun m hm => ?_⟩
  rw [h.row n r er] at e
  cases e
  split at hm
  · exact hm
  · cases hm
theorem rch_subW {t u : Tab} (h : ∀ n s, rowOf u n = some s → ∃ r, rowOf t n = some r ∧ ∀ m ∈ s.needs, m ∈ r.needs) {a b : Str} (p : Rch u a b) : Rch t a b := by
  induction p with
  | refl n => exact .refl n
  | @step n m x s e hm tl ih =>
    obtain ⟨r, er, hr⟩ := h n s e
    exact .step er (hr m hm) ih
open Classical in
theorem put2_step {t u : Tab} {ys : List Str} {i : Nat} {z : Str} {r : BRow} (ok : TabOk t) (y : SrtT t ys) (h : Put2 t ys u i) (hz : ys[i]? = some z) (er : rowOf t z = some r) :
    needR u (.str z) (.tuple (r.needs.map PyData.str)) = .ok (putT u z { bareR r with needs := r.needs }) ∧ darkR (putT u z { bareR r with needs := r.needs }) (.str z) (.bool r.dim) = .ok (putT (putT u z { bareR r with needs := r.needs }) z r) ∧ Put2 t ys (putT (putT u z { bareR r with needs := r.needs }) z r) (i + 1) := by
  have hzm := rowOf_mem er
  have hnd : ys.Nodup := y.perm.nodup_iff.mpr ok.nd
  have etk : ys.take (i + 1) = ys.take i ++ [z] := by rw [List.take_add_one, hz]; rfl
  have hnot : z ∉ ys.take i := fun hm => by
    have := hnd.sublist (List.take_sublist (i + 1) ys)
    rw [etk, List.nodup_append] at this
    exact this.2.2 z hm z (by simp) rfl
  have hr := ok.row z r er
  have eu : rowOf u z = some (bareR r) := by rw [h.row z r er, if_neg hnot]
  have hzu : z ∈ namesT u := rowOf_mem eu
  have e1 : needR u (.str z) (.tuple (r.needs.map PyData.str)) = .ok (putT u z { bareR r with needs := r.needs }) := by
    unfold needR
    rw [swRow_str, eu]
    have ea : (r.needs.map PyData.str).all (isSwT u) = true := by
      rw [List.all_eq_true]
      intro d hd
      obtain ⟨m, hm, rfl⟩ := List.mem_map.mp hd
      refine decide_eq_true ?_
      rw [h.nm]
      exact y.mem.mpr (hr.mem m hm)
    have h3 : risT r.needs = true := by
      unfold risT
      rw [Bool.and_eq_true, decide_eq_true_eq]
      exact ⟨hr.nd, hr.srt⟩
    have h4 : ¬ ∃ m ∈ r.needs, Rch u m z := by
      rintro ⟨m, hm, p⟩
      exact ok.acy z r m er hm (rch_subW (fun n s e => h.back y e) p)
    simp only [Option.map_some, ea, strsOf_map, h3, Bool.true_eq_false, if_false]
    rw [if_neg h4]
  have er1 : rowOf (putT u z { bareR r with needs := r.needs }) z = some { bareR r with needs := r.needs } := by rw [rowOf_put, if_pos rfl]
  have e2 : darkR (putT u z { bareR r with needs := r.needs }) (.str z) (.bool r.dim) = .ok (putT (putT u z { bareR r with needs := r.needs }) z r) := by
    unfold darkR
    rw [swRow_str, er1]
    rfl
  refine ⟨e1, e2, ?_, fun n s en => ?_⟩
  · rw [names_in (rowOf_mem er1), names_in hzu, h.nm]
  · rw [rowOf_put, etk]
    by_cases e : n = z
    · rw [if_pos e, if_pos (by rw [e]; simp)]
      rw [e, er] at en
      cases en
      rfl
    · rw [if_neg e, rowOf_put, if_neg e, h.row n s en]
      congr 1
      by_cases hm : n ∈ ys.take i
      · rw [if_pos hm, if_pos (List.mem_append_left _ hm)]
      · rw [if_neg hm, if_neg (fun hh => by
          rcases List.mem_append.mp hh with hh | hh
          · exact hm hh
          · exact e (List.mem_singleton.mp hh))]
theorem Put2.all {t u : Tab} {ys : List Str} (ok : TabOk t) (y : SrtT t ys) (h : Put2 t ys u ys.length) : ∀ n, rowOf u n = rowOf t n := fun n => by
  cases e : rowOf t n with
  | some r => rw [h.row n r e, if_pos (by rw [List.take_length]; exact y.mem.mpr (rowOf_mem e))]
  | none =>
    rw [rowOf_none, h.nm]
    exact fun hm => rowOf_none.mp e (y.mem.mp hm)
theorem savS_same {t u : Tab} {ys : List Str} (h : ∀ n, rowOf u n = rowOf t n) : savS u ys = savS t ys := by
  have e : rowL u = rowL t := by
    funext n
    unfold rowL datOf
    rw [h n]
  unfold savS savL
  rw [e]
/-- what is left to be done of a switch -/
def ndD (t : Tab) (n : Str) : PyData := match rowOf t n with
  | some r => .tuple [.str n, .tuple (r.needs.map PyData.str), .bool r.dim]
  | none => .none
theorem ndD_imm (t : Tab) (ns : List Str) : immAll (ns.map (ndD t)) = true := immAll_mem fun d hd => by
  obtain ⟨n, _, rfl⟩ := List.mem_map.mp hd
  unfold ndD
  split
  · simp only [imm, immAll, imm_strs, Bool.and_self]
  · rfl
/-- a board that is being woken -/
structure WkSt (K : PySem.W.Frag) (H0 H : Hp) (b L ND RW : Addr) (rvs : List V) (u : Tab) (past : List Tab) (nds : List PyData) : Prop where
  fr : Same H0 H
  A : BrdAt K (fun x => ∃ o, H0 x = some o) H b L u past
  nb : H0 b = none
  nL : H0 L = none
  hN : ∃ vs, H ND = some (.lst vs) ∧ DpAll K H vs nds
  im : immAll nds = true
  nN : H0 ND = none
  hW : H RW = some (.lst rvs)
  d1 : ND ≠ L
  d2 : RW ≠ L
  d3 : RW ≠ ND
section
variable {K : PySem.W.Frag} {H0 H H1 : Hp} {b L ND RW : Addr} {rvs : List V} {u u' : Tab} {past past' : List Tab} {nds : List PyData}
theorem BrdAt.ntA' {N : Addr → Prop} (h : BrdAt K N H b L u past) : NtA (fun y => y = b ∨ y = L) H := fun x o hx ho => by
  obtain ⟨dx, d', ds, hb, _, hL, _⟩ := h.ex
  rcases hx with e | e
  · rw [e, hb] at ho
    cases ho
    exact trivial
  · rw [e, hL] at ho
    cases ho
    exact trivial
theorem WkSt.same (h : WkSt K H0 H b L ND RW rvs u past nds) (s : Same H H1) : WkSt K H0 H1 b L ND RW rvs u past nds := by
  obtain ⟨vs, h1, h2⟩ := h.hN
  exact ⟨h.fr.trans s, h.A.s s, h.nb, h.nL, ⟨vs, s _ _ h1, dps_s s h2⟩, h.im, h.nN, s _ _ h.hW, h.d1, h.d2, h.d3⟩
theorem WkSt.bd (h : WkSt K H0 H b L ND RW rvs u past nds) (k : Bd b L H H1) (hB : BrdAt K (fun x => ∃ o, H0 x = some o) H1 b L u' past') : WkSt K H0 H1 b L ND RW rvs u' past' nds := by
  obtain ⟨vs, h1, h2⟩ := h.hN
  obtain ⟨dx, d', ds, hb, _, hL, _⟩ := h.A.ex
  refine ⟨fun x o hx => k x o (h.fr x o hx) (fun e => by rw [e, h.nb] at hx; cases hx) (fun e => by rw [e, h.nL] at hx; cases hx), hB, h.nb, h.nL, ⟨vs, k _ _ h1 (ne_of h1 hb (by intro z; cases z)) h.d1, dps_tups (kpb_tups k.kpb h.A.ntA') h.im h2⟩, h.im, h.nN, k _ _ h.hW (ne_of h.hW hb (by intro z; cases z)) h.d2, h.d1, h.d2, h.d3⟩
theorem WkSt.app {v : V} {d : PyData} (h : WkSt K H0 H b L ND RW rvs u past nds) (hv : Dp K H v d) (im : imm d = true) : ∃ vs, H ND = some (.lst vs) ∧ vs.length = nds.length ∧ WkSt K H0 (upd H ND (.lst (vs ++ [v]))) b L ND RW rvs u past (nds ++ [d]) := by
  obtain ⟨vs, h1, h2⟩ := h.hN
  obtain ⟨dx, d', ds, hb, _, hL, _⟩ := h.A.ex
  have him2 : immAll (nds ++ [d]) = true := immAll_mem fun e he => by
    rcases List.mem_append.mp he with he | he
    · exact immAll_get h.im he
    · rw [List.mem_singleton.mp he]
      exact im
  have nt : NtA (fun y => y = ND) H := fun x o hx ho => by
    rw [show x = ND from hx, h1] at ho
    cases ho
    exact trivial
  have ko : KpB (fun y => y = ND) H (upd H ND (.lst (vs ++ [v]))) := Oth.kpb (p := ND) Oth.refl.put
  refine ⟨vs, h1, dpAll_len h2, fun x o hx => ?_, h.A.kpb ko nt (ne_of hb h1 (by intro z; cases z)) (Ne.symm h.d1) (fun x kvs hx hk => ?_), h.nb, h.nL, ⟨_, upd_same, dpAll_mut h1 him2 (dpAll_app h2 (.cons hv .nil))⟩, him2, h.nN, by rw [upd_ne h.d3]; exact h.hW, h.d1, h.d2, h.d3⟩
  · rw [upd_ne (fun e => by rw [e, h.nN] at hx; cases hx)]
    exact h.fr _ _ hx
  · rw [show x = ND from hx, h1] at hk
    cases hk
theorem WkSt.st (h : WkSt K H0 H b L ND RW rvs u past nds) : ∀ x, (∃ o, H0 x = some o) → ∃ o, H x = some o := fun x hx => by
  obtain ⟨o, ho⟩ := hx
  exact ⟨o, h.fr _ _ ho⟩
end
theorem ok__law_cell (T : Tx K mg) : Ok P w K mg base 1 "_law_cell" ["script", "k"] (spCell K) := by
  refine Ok.mk' T.G__law_cell T.F__law_cell (fun _ _ _ _ _ _ us hl => match us, hl with | [_, _], _ => rfl) sc__law_cell (fun vs H Q E h => ?_) (fun cdv A outer s H vs Q E hr h => ?_)
  · obtain ⟨a, k, ns, rfl, hS, hl, hk, hk2, q⟩ := h
    rfl
  · obtain ⟨a, k, ns, rfl, hS, hl, hk, hk2, q⟩ := h
    refine ⟨(tSeq (tIfS (tTest (tOp (rEqD K) (tVar 0) (tLst tNil))) (tRet (tOp oMul (tVar 1) (tC (.int 7919)))) tNext)
      (tRet (tOp oAdd (tOp (rIxL K) (tVar 0) (tOp oMod (tVar 1) (tCB (cLen K) (tCons (tVar 0) tNil)))) (tOp oMul (tOp oDiv (tVar 1) (tCB (cLen K) (tCons (tVar 0) tNil))) (tC (.int 104729)))))), (pss_cons (ps_if (pt_cmpR (op_eqD hr.units) (pv 0) (pe_lst pa_nil) (nomark _)) (pss_one (ps_ret (pe_op op_mul (pv 1) pe_int))) pss_nil)
      (pss_one (ps_ret (pe_op op_add (pe_ix ix_list (pv 0) (pe_op op_mod (pv 1) (pe_callB call_len (by rfl) T.Z_len (by decide +kernel) (pa_cons (pv 0) pa_nil))) (fun _ _ => rfl)) (pe_op op_mul (pe_op op_fdivW (pv 1) (pe_callB call_len (by rfl) T.Z_len (by decide +kernel) (pa_cons (pv 0) pa_nil))) pe_int))))), ?_⟩
    walk_at "0"
    walk_at "g"
    refine ⟨Nat.zero_le _, fun p np => ?_⟩
    have s1 : Same H (upd H p (.lst [])) := Same.new np
    refine w_eqD (dp_ints (s1.seq hS)) (.lst (lstOf upd_same) .nil) (shaped_ints ns) (by rfl) ?_
    walk_at "g"
    refine if_b (fun h => ?_) (fun h => ?_)
    · walk_at "g"
      refine w_I (.inr ⟨by decide, by decide⟩) ?_
      exact q _ _ s1
    · have hn : 0 < ns.length := by
        cases ns with
        | nil => simp [PyData.eqv, PyData.eqvAll] at h
        | cons x r => simp
      walk_at "g"
      refine w_lenL (s1.seq hS) ?_
      simp only [List.length_map]
      refine w_I (by omega) ?_
      obtain ⟨z, hz⟩ := atI_ints (ns := ns) (j := k % (ns.length : Nat)) (Int.emod_nonneg _ (by omega)) (Int.emod_lt_of_pos _ (by omega))
      refine w_ixL (s1.seq hS) hz ?_
      walk_at "g"
      refine w_lenL (s1.seq hS) ?_
      simp only [List.length_map]
      refine w_I (divW (by omega) (by omega)) ?_
      walk_at "g"
      refine w_I (.inr ⟨by decide, by decide⟩) ?_
      walk_at "g"
      exact q _ _ s1
theorem ok__law_rounds (T : Tx K mg) : Ok P w K mg base 2 "_law_rounds" ["script", "most"] (spRounds K) := by
  refine Ok.mk' T.G__law_rounds T.F__law_rounds (fun _ _ _ _ _ _ us hl => match us, hl with | [_, _], _ => rfl) sc__law_rounds (fun vs H Q E h => ?_) (fun cdv A outer s H vs Q E hr h => ?_)
  · obtain ⟨a, m, ns, rfl, hS, hl, m0, m1, q⟩ := h
    rfl
  · obtain ⟨a, m, ns, rfl, hS, hl, m0, m1, q⟩ := h
    refine ⟨(tRet (tLc (iRng1 (tCons (tCB cMax2 (tCons (tC (.int 1)) (tCons (tCB cMin2 (tCons (tVar 1) (tCons (tCB (cLen K) (tCons (tVar 0) tNil)) tNil))) tNil))) tNil)) (gName 2) tYes (tLst (tCons (tCall (spCell K) [] E0 (tCons (tVar 0) (tCons (tVar 2) tNil))) (tCons (tC (.int 0)) tNil))) [2])), (pss_one (ps_ret (pe_lc (own := [("k", 2)]) rfl sc__law_rounds.nd (pi_range1 (by rfl) T.Z_range (pa_cons (pe_callB (call_max2 rfl) (by rfl) T.Z_max (by decide +kernel) (pa_cons pe_int (pa_cons (pe_callB (call_min2 rfl) (by rfl) T.Z_min (by decide +kernel) (pa_cons (pv 1) (pa_cons (pe_callB call_len (by rfl) T.Z_len (by decide +kernel) (pa_cons (pv 0) pa_nil)) pa_nil))) pa_nil))) pa_nil)) (blkOk_by (own := [("k", 2)]) (N := ["script", "most", "k"]) (sc := defScope s__law_rounds) (by decide +kernel)) (fun _ _ _ _ _ => (pg_name (i := 2) sc__law_rounds.nd rfl (by first | exact Or.inl rfl | exact Or.inr rfl))) (fun _ _ _ _ _ => pts_nil) (fun _ _ _ _ _ => (pe_lst (pa_cons (pe_f (ok__law_cell T) hr pn0 (pa_cons (pv 0) (pa_cons (pv 2) pa_nil))) (pa_cons pe_int pa_nil))))))), ?_⟩
    walk_at "0"
    walk_at "g"
    refine w_lenL hS ?_
    simp only [List.length_map]
    walk_at "g"
    generalize hj : (if (if (ns.length : Int) < m then (ns.length : Int) else m) > 1 then (if (ns.length : Int) < m then (ns.length : Int) else m) else 1) = j
    have j0 : 1 ≤ j := by
      rw [← hj]
      split <;> omega
    have j1 : j ≤ 10 := by
      rw [← hj]
      split
      · split <;> omega
      · omega
    refine ⟨by omega, by omega, ?_⟩
    refine lc_go walk_range (by omega) (fun D i acc H' => Same H H' ∧ ∃ ds : List Addr, acc = ds.map V.ref ∧ ∀ d ∈ ds, H d = none ∧ d ≠ D ∧ Dice H' d) (fun D hD => ⟨Same.new hD, [], rfl, fun _ h => by cases h⟩) (fun _ _ _ _ _ _ _ => trivial) ?_ ?_
    · rintro D i acc x H' H'' hD hi hacc hH' ⟨sm, ds, rfl, hds⟩ ⟨rfl, rfl⟩
      walk_at "g"
      refine ⟨rfl, ?_⟩
      walk_at "g"
      refine ⟨_, _, ns, rfl, sm.seq hS, hl, by omega, by omega, fun z H2 s2 => ?_⟩
      walk_at "g"
      refine ⟨sz (by simp), fun p np => ?_⟩
      have s3 : Same H2 (upd H2 p (.lst [.int z, .int 0])) := Same.new np
      have hD3 := s3 _ _ (s2 _ _ hH')
      have npD : p ≠ D := (ne_of_none (s2 _ _ hH') np).symm
      have s5 : ∀ b o, H b = some o → upd (upd H2 p (.lst [.int z, .int 0])) D (.lst (ds.map V.ref ++ [.ref p])) b = some o := fun b o e => by
        rw [upd_ne (ne_of_none e hD)]
        exact s3 _ _ (s2 _ _ (sm _ _ e))
      refine lc_nx (by omega) hacc hD3 ⟨s5, ds ++ [p], by simp, fun d hd => ?_⟩
      rcases List.mem_append.mp hd with hd | hd
      · obtain ⟨e1, e2, e3⟩ := hds d hd
        obtain ⟨x, k, e3⟩ := e3
        exact ⟨e1, e2, x, k, by rw [upd_ne e2]; exact s3 _ _ (s2 _ _ e3)⟩
      · cases List.mem_singleton.mp hd
        exact ⟨sm.free (s2.free np), npD, z, 0, by rw [upd_ne npD]; exact upd_same⟩
    · rintro D acc H' hD hH' hl' ⟨sm, ds, rfl, hds⟩
      exact q D ds H' sm hH' hds hD
theorem ok_Board___init__ (T : Tx K mg) : OkM P w K mg base 1 "Board" "__init__" ["self"] (spBrdInit K) := by
  refine OkM.mk' T.M_Board___init__ T.F_Board___init__ (fun _ _ _ _ _ _ us hl => match us, hl with | [_], _ => rfl) sc_Board___init__ (fun vs H Q E h => ?_) (fun cdv A outer s H vs Q E hr h => ?_)
  · obtain ⟨x, dx, rfl, hx, q⟩ := h
    rfl
  · obtain ⟨x, dx, rfl, hx, q⟩ := h
    refine ⟨(tSeq (sFld K (tVar 0) tDNewK "table")
      (sFld K (tVar 0) (tLst tNil) "past")), (pss_cons (ps_fld (pv 0) pe_dnewK rfl)
      (pss_one (ps_fld (pv 0) (pe_lst pa_nil) rfl))), ?_⟩
    walk_at "0"
    walk_at "p"
    refine w_sfld (w_dnewK fun d H1 s1 nd hd => w_var rfl ⟨x, _, dx, _, rfl, s1 _ _ hx, T.C_Board, T.N_Board_table, by simp, ?_⟩)
    have ndx : d ≠ x := fun z => by rw [z, hx] at nd; cases nd
    walk_at "p"
    refine w_sfld ?_
    walk_at "g"
    refine w_newL (by simp) fun L H2 s2 nL hL => w_var rfl ⟨x, _, dx, _, rfl, s2 _ _ upd_same, T.C_Board, T.N_Board_past, by simp [putF], ?_⟩
    have nLx : L ≠ x := fun z => by rw [z, upd_same] at nL; cases nL
    rw [upd_ne nLx] at nL
    refine q d L _ nd (s1.free nL) (fun b o hb nb => ?_) upd_same ?_ ?_
    · rw [upd_ne nb]
      exact s2 _ _ (by rw [upd_ne nb]; exact s1 _ _ hb)
    · rw [upd_ne ndx]
      exact s2 _ _ (by rw [upd_ne ndx]; exact hd)
    · rw [upd_ne nLx]
      exact hL
theorem ok__law_drawn (T : Tx K mg) : Ok P w K mg base 1 "_law_drawn" ["cell", "k"] (spDrawn) := by
  refine Ok.mk' T.G__law_drawn T.F__law_drawn (fun _ _ _ _ _ _ us hl => match us, hl with | [_, _], _ => rfl) sc__law_drawn (fun vs H Q E h => ?_) (fun cdv A outer s H vs Q E hr h => ?_)
  · obtain ⟨c, k, rfl, q⟩ := h
    rfl
  · obtain ⟨c, k, rfl, q⟩ := h
    refine ⟨(tSeq (tAsg (tOp oMod (tOp oAdd (tOp oMul (tVar 0) (tC (.int 6364136223846793005))) (tOp oMul (tOp oAdd (tVar 1) (tC (.int 1))) (tC (.int 1442695040888963407)))) (tC (.int 340282366920938463463374607431768211507))) (gName 2))
      (tSeq (tAsg (tOp oMod (tOp oMulW (tVar 2) (tVar 2)) (tC (.int 340282366920938463463374607431768211297))) (gName 2))
      (tSeq (tAsg (tOp oMulW (tOp oMulW (tOp oAdd (tOp oMod (tVar 2) (tC (.int 18446744073709551557))) (tC (.int 1))) (tOp oAdd (tOp oDiv (tVar 2) (tC (.int 18446744073709551557))) (tC (.int 1)))) (tVar 2)) (gName 2))
      (tRet (tOp oMod (tVar 2) (tC (.int 340282366920938463463374607431768211507))))))), (pss_cons (ps_set (i := 2) sc__law_drawn.nd rfl (by first | exact Or.inl rfl | exact Or.inr rfl) (pe_op op_mod (pe_op op_add (pe_op op_mul (pv 0) pe_int) (pe_op op_mul (pe_op op_add (pv 1) pe_int) pe_int)) pe_int))
      (pss_cons (ps_set (i := 2) sc__law_drawn.nd rfl (by first | exact Or.inl rfl | exact Or.inr rfl) (pe_op op_mod (pe_op op_mulW (pv 2) (pv 2)) pe_int))
      (pss_cons (ps_set (i := 2) sc__law_drawn.nd rfl (by first | exact Or.inl rfl | exact Or.inr rfl) (pe_op op_mulW (pe_op op_mulW (pe_op op_add (pe_op op_mod (pv 2) pe_int) pe_int) (pe_op op_add (pe_op op_fdivW (pv 2) pe_int) pe_int)) (pv 2)))
      (pss_one (ps_ret (pe_op op_mod (pv 2) pe_int)))))), ?_⟩
    walk_at "0"
    walk_at "g"
    refine w_I (.inr ⟨by decide, by decide⟩) ?_
    walk_at "g"
    refine w_I (.inr ⟨by decide, by decide⟩) ?_
    walk_at "g"
    refine w_I (by decide) ?_
    generalize hm : (c * 6364136223846793005 + (k + 1) * 1442695040888963407) % 340282366920938463463374607431768211507 = m
    have m0 : 0 ≤ m := by
      rw [← hm]
      exact Int.emod_nonneg _ (by decide)
    have m1 : m < 340282366920938463463374607431768211507 := by
      rw [← hm]
      exact Int.emod_lt_of_pos _ (by decide)
    walk_at "g"
    refine w_I (mulW m0 (by omega) m0 (by omega)) ?_
    walk_at "g"
    refine w_I (by decide) ?_
    generalize hn : m * m % 340282366920938463463374607431768211297 = n
    have n0 : 0 ≤ n := by
      rw [← hn]
      exact Int.emod_nonneg _ (by decide)
    have n1 : n < 340282366920938463463374607431768211297 := by
      rw [← hn]
      exact Int.emod_lt_of_pos _ (by decide)
    walk_at "g"
    refine w_I (by decide) ?_
    generalize ha : n % 18446744073709551557 = a
    have a0 : 0 ≤ a := by
      rw [← ha]
      exact Int.emod_nonneg _ (by decide)
    have a1 : a < 18446744073709551557 := by
      rw [← ha]
      exact Int.emod_lt_of_pos _ (by decide)
    walk_at "g"
    refine w_I (divW (by decide) (by decide)) ?_
    generalize hb : n / 18446744073709551557 = b
    have b0 : 0 ≤ b := by
      rw [← hb]
      exact Int.ediv_nonneg n0 (by decide)
    have b1 : b ≤ n := by
      rw [← hb]
      exact Int.ediv_le_self _ n0
    walk_at "g"
    refine w_I (mulW (by omega) (by omega) (by omega) (by omega)) ?_
    have c1 : 0 ≤ (a + 1) * (b + 1) := Int.mul_nonneg (by omega) (by omega)
    have c2 : (a + 1) * (b + 1) ≤ 18446744073709551557 * 340282366920938463463374607431768211297 := Int.mul_le_mul (by omega) (by omega) (by omega) (by decide)
    generalize (a + 1) * (b + 1) = c' at c1 c2
    walk_at "g"
    refine w_I (mulW c1 (by omega) (by omega) (by omega)) ?_
    walk_at "g"
    refine w_I (by decide) ?_
    exact q _ (Int.emod_nonneg _ (by decide))
theorem ok__law_roll (T : Tx K mg) : Ok P w K mg base 2 "_law_roll" ["dice", "many"] (spRoll) := by
  refine Ok.mk' T.G__law_roll T.F__law_roll (fun _ _ _ _ _ _ us hl => match us, hl with | [_, _], _ => rfl) sc__law_roll (fun vs H Q E h => ?_) (fun cdv A outer s H vs Q E hr h => ?_)
  · obtain ⟨a, m, rfl, hd, m0, m1, q⟩ := h
    rfl
  · obtain ⟨a, m, rfl, hd, m0, m1, q⟩ := h
    refine ⟨(tSeq (tIfS (tTest (tOp oGe (tOp (rIxL K) (tVar 0) (tC (.int 0))) (tOp oPow (tC (.int 10)) (tC (.int 18))))) (tSeq (tAsg (tOp oMod (tOp (rIxL K) (tVar 0) (tC (.int 0))) (tVar 1)) (gName 2))
      (tSeq (tAsg (tOp oDiv (tOp (rIxL K) (tVar 0) (tC (.int 0))) (tVar 1)) (gSub (tVar 0) (tC (.int 0)) rSetL))
      (tRet (tVar 2)))) tNext)
      (tSeq (tAsg (tOp oAdd (tOp (rIxL K) (tVar 0) (tC (.int 1))) (tC (.int 1))) (gSub (tVar 0) (tC (.int 1)) rSetL))
      (tRet (tOp oMod (tOp oDiv (tCall (spDrawn) [] E (tCons (tOp (rIxL K) (tVar 0) (tC (.int 0))) (tCons (tOp (rIxL K) (tVar 0) (tC (.int 1))) tNil))) (tC (.int 8))) (tVar 1))))), (pss_cons (ps_if (pt_cmpR op_ge (pe_ix ix_list (pv 0) pe_int (fun _ _ => rfl)) (pe_op op_pow pe_int pe_int) (nomark _)) (pss_cons (ps_set (i := 2) sc__law_roll.nd rfl (by first | exact Or.inl rfl | exact Or.inr rfl) (pe_op op_mod (pe_ix ix_list (pv 0) pe_int (fun _ _ => rfl)) (pv 1)))
      (pss_cons (ps_asg (pe_op op_fdivW (pe_ix ix_list (pv 0) pe_int (fun _ _ => rfl)) (pv 1)) (pg_sub (pv 0) pe_int set_list))
      (pss_one (ps_ret (pv 2))))) pss_nil)
      (pss_cons (ps_asg (pe_op op_add (pe_ix ix_list (pv 0) pe_int (fun _ _ => rfl)) pe_int) (pg_sub (pv 0) pe_int set_list))
      (pss_one (ps_ret (pe_op op_mod (pe_op op_fdivW (pe_f (ok__law_drawn T) hr (pnx (L2N.takes_of rfl rfl rfl rfl)) (pa_cons (pe_ix ix_list (pv 0) pe_int (fun _ _ => rfl)) (pa_cons (pe_ix ix_list (pv 0) pe_int (fun _ _ => rfl)) pa_nil))) pe_int) (pv 1)))))), ?_⟩
    walk_at "0"
    obtain ⟨x, k, hx⟩ := hd
    have hd : Dice H a := ⟨x, k, hx⟩
    walk_at "g"
    refine w_ixL (lstOf hx) (v := .int x) rfl ?_
    walk_at "g"
    refine w_I ⟨by decide, by decide, by decide⟩ ?_
    walk_at "g"
    refine if_b (fun h => ?_) (fun h => ?_)
    · walk_at "g"
      refine w_ixL (lstOf hx) (v := .int x) rfl ?_
      walk_at "g"
      refine w_I m0 ?_
      walk_at "g"
      refine w_ixL (lstOf hx) (v := .int x) rfl ?_
      walk_at "g"
      refine w_I (divW m0 m1) ?_
      walk_at "g"
      refine w_setL hx (j := 0) rfl ?_
      walk_at "g"
      exact q _ _ (Int.emod_nonneg _ (by omega)) (Int.emod_lt_of_pos _ m0) (But.put hd)
    · walk_at "g"
      refine w_ixL (lstOf hx) (v := .int k) rfl ?_
      walk_at "g"
      refine w_setL hx (j := 1) rfl ?_
      walk_at "g"
      have h2 : upd H a (.lst [.int x, .int (k + 1)]) a = some (.lst [.int x, .int (k + 1)]) := upd_same
      refine w_ixL (lstOf h2) (v := .int x) rfl ?_
      walk_at "g"
      refine w_ixL (lstOf h2) (v := .int (k + 1)) rfl ?_
      walk_at "g"
      refine ⟨x, k + 1, rfl, fun z hz => ?_⟩
      walk_at "g"
      refine w_I (divW (by decide) (by decide)) ?_
      walk_at "g"
      refine w_I m0 ?_
      exact q _ _ (Int.emod_nonneg _ (by omega)) (Int.emod_lt_of_pos _ m0) (But.put hd)
theorem ok__law_name (T : Tx K mg) : Ok P w K mg base 3 "_law_name" ["dice"] (spLName K) := by
  refine Ok.mk' T.G__law_name T.F__law_name (fun _ _ _ _ _ _ us hl => match us, hl with | [_], _ => rfl) sc__law_name (fun vs H Q E h => ?_) (fun cdv A outer s H vs Q E hr h => ?_)
  · obtain ⟨a, rfl, hd, q⟩ := h
    rfl
  · obtain ⟨a, rfl, hd, q⟩ := h
    refine ⟨(tRet (tOp (rIxL K) (tLst (tCons (tC (.str "ab")) (tCons (tC (.str "cd")) (tCons (tC (.str "ef")) (tCons (tC (.str "gh")) (tCons (tC (.str "ij")) tNil)))))) (tCall (spRoll) [] E (tCons (tVar 0) (tCons (tC (.int 5)) tNil))))), (pss_one (ps_ret (pe_ix ix_list (pe_lst (pa_cons pe_str (pa_cons pe_str (pa_cons pe_str (pa_cons pe_str (pa_cons pe_str pa_nil)))))) (pe_f (ok__law_roll T) hr (pnx (L2N.takes_of rfl rfl rfl rfl)) (pa_cons (pv 0) (pa_cons pe_int pa_nil))) (fun _ _ => rfl)))), ?_⟩
    walk_at "0"
    walk_at "g"
    refine w_newL (by simp) fun p H1 s1 np hp => ?_
    have b1 := But.of hd s1
    walk_at "g"
    refine ⟨a, 5, rfl, b1.d1, by decide, by decide, fun r H2 r0 r1 b2 => ?_⟩
    obtain ⟨r, rfl⟩ := Int.eq_ofNat_of_zero_le r0
    have hp2 : H2 p = some (.lst (names5.map V.str)) := b2.kp _ _ hp (hd.ne np)
    have hr : r < names5.length := by show r < 5; omega
    exact w_ixL (lstOf hp2) (at_of (j := r) rfl (by rw [List.getElem?_map, List.getElem?_eq_getElem hr]; rfl)) (q _ _ (b1.trans b2) (List.getElem_mem hr))
theorem ok__law_deal (T : Tx K mg) : Ok P w K mg base 3 "_law_deal" ["dice"] (spDeal K) := by
  refine Ok.mk' T.G__law_deal T.F__law_deal (fun _ _ _ _ _ _ us hl => match us, hl with | [_], _ => rfl) sc__law_deal (fun vs H Q E h => ?_) (fun cdv A outer s H vs Q E hr h => ?_)
  · obtain ⟨a, rfl, hd, q⟩ := h
    rfl
  · obtain ⟨a, rfl, hd, q⟩ := h
    refine ⟨(tRet (tTup (tCons (tOp oAdd (tOp oMul (tC (.int 10)) (tCall (spRoll) [] E (tCons (tVar 0) (tCons (tC (.int 10)) tNil)))) (tOp (rIxL K) (tLst (tCons (tC (.int 1)) (tCons (tC (.int 3)) (tCons (tC (.int 7)) (tCons (tC (.int 9)) tNil))))) (tCall (spRoll) [] E (tCons (tVar 0) (tCons (tC (.int 4)) tNil))))) (tCons (tCall (spRoll) [] E (tCons (tVar 0) (tCons (tC (.int 100)) tNil))) tNil)))), (pss_one (ps_ret (pe_tup (pa_cons (pe_op op_add (pe_op op_mul pe_int (pe_f (ok__law_roll T) hr (pnx (L2N.takes_of rfl rfl rfl rfl)) (pa_cons (pv 0) (pa_cons pe_int pa_nil)))) (pe_ix ix_list (pe_lst (pa_cons pe_int (pa_cons pe_int (pa_cons pe_int (pa_cons pe_int pa_nil))))) (pe_f (ok__law_roll T) hr (pnx (L2N.takes_of rfl rfl rfl rfl)) (pa_cons (pv 0) (pa_cons pe_int pa_nil))) (fun _ _ => rfl))) (pa_cons (pe_f (ok__law_roll T) hr (pnx (L2N.takes_of rfl rfl rfl rfl)) (pa_cons (pv 0) (pa_cons pe_int pa_nil))) pa_nil))))), ?_⟩
    walk_at "0"
    walk_at "g"
    refine ⟨a, 10, rfl, hd, by decide, by decide, fun r H1 r0 r1 b1 => ?_⟩
    refine w_I (.inl ⟨by decide, by decide⟩) ?_
    walk_at "g"
    refine ⟨sz (by simp), fun p np => ?_⟩
    have b2 := b1.new (o := .lst [.int 1, .int 3, .int 7, .int 9]) np
    walk_at "g"
    refine ⟨a, 4, rfl, b2.d1, by decide, by decide, fun r2 H2 r20 r21 b3 => ?_⟩
    have hp := b3.kp p _ upd_same (b1.d1.ne np)
    obtain ⟨z, hz, hz2⟩ := atI_four (a := 1) (b := 3) (c := 7) (d := 9) r20 r21
    refine w_ixL (lstOf hp) hz ?_
    walk_at "g"
    refine ⟨a, 100, rfl, b3.d1, by decide, by decide, fun r3 H3 r30 r31 b4 => ?_⟩
    walk_at "g"
    refine ⟨sz (by simp), fun t nt => ?_⟩
    have b5 := (b2.trans b3).trans b4
    exact q t _ _ _ (b5.new nt) (b5.free nt) upd_same (isDeal_mk (by omega) (by omega) (by omega) (by omega) (by omega) (by omega))
theorem ok__law_row (T : Tx K mg) : Ok P w K mg base 3 "_law_row" ["dice", "most"] (spLawRow K) := by
  refine Ok.mk' T.G__law_row T.F__law_row (fun _ _ _ _ _ _ us hl => match us, hl with | [_, _], _ => rfl) sc__law_row (fun vs H Q E h => ?_) (fun cdv A outer s H vs Q E hr h => ?_)
  · obtain ⟨a, m, rfl, hd, m0, m1, q⟩ := h
    rfl
  · obtain ⟨a, m, rfl, hd, m0, m1, q⟩ := h
    refine ⟨(tSeq (tAsg (tLc (iRng1 (tCons (tVar 1) tNil)) (gName 2) (tTest (tOp rEq (tCall (spRoll) [] E0 (tCons (tVar 0) (tCons (tC (.int 2)) tNil))) (tC (.int 0)))) (tVar 2) [2]) (gName 3))
      (tRet (tIf (tTest (tOp (rNeD K) (tVar 3) (tLst tNil))) (tCB (cTuple K) (tCons (tVar 3) tNil)) (tTup (tCons (tCall (spRoll) [] E (tCons (tVar 0) (tCons (tVar 1) tNil))) tNil))))), (pss_cons (ps_setLc (i := 3) (own := [("at", 2)]) rfl sc__law_row.nd rfl rfl (sw_true rfl rfl rfl (by decide +kernel)) (pi_range1 (by rfl) T.Z_range (pa_cons (pv 1) pa_nil)) (blkOk_by (own := [("at", 2)]) (N := ["dice", "most", "at", "found"]) (sc := defScope s__law_row) (by decide +kernel)) (fun _ _ _ _ _ => (pg_name (i := 2) sc__law_row.nd rfl (by first | exact Or.inl rfl | exact Or.inr rfl))) (fun _ _ _ _ _ => (pts_one (pt_cmpR op_eq (pe_f (ok__law_roll T) hr pn0 (pa_cons (pv 0) (pa_cons pe_int pa_nil))) pe_int (nomark _)))) (fun _ _ _ _ _ => (pv 2)))
      (pss_one (ps_ret (pe_ifExp (pt_cmpR (op_neD hr.units) (pv 3) (pe_lst pa_nil) (nomark _)) (pe_callTy call_tuple_of (by rfl) T.Z_tuple (by decide +kernel) (pa_cons (pv 3) pa_nil)) (pe_tup (pa_cons (pe_f (ok__law_roll T) hr (pnx (L2N.takes_of rfl rfl rfl rfl)) (pa_cons (pv 0) (pa_cons (pv 1) pa_nil))) pa_nil)))))), ?_⟩
    walk_at "0"
    walk_at "g"
    refine ⟨by omega, by omega, ?_⟩
    refine lc_dice (K := K) (a := a) walk_range (by omega) (fun i ds => ∃ ns : List Int, ds = ns.map PyData.int ∧ ns.length ≤ i ∧ ns.Pairwise (· < ·) ∧ ∀ j ∈ ns, 0 ≤ j ∧ j < i) hd ⟨[], rfl, Nat.le_refl _, .nil, fun _ h => by cases h⟩ (fun _ _ => trivial) ?_ ?_
    · rintro D i acc x H' H'' hD hi hacc hH' ⟨bb, nD, ds, hds, im, ns, rfl, hl, hp, hr0⟩ ⟨rfl, rfl⟩
      walk_at "g"
      refine ⟨rfl, ?_⟩
      walk_at "g"
      refine ⟨a, 2, rfl, bb.d1, by decide, by decide, fun r H1 r0 r1 b1 => ?_⟩
      walk_at "g"
      refine if_b (fun _ => ?_) (fun _ => ?_)
      · walk_at "g"
        refine lcr_nx (d := .int (0 + (i : Int))) hD (by omega) hacc hH' bb nD hds im b1 (.int _) rfl ⟨ns ++ [0 + (i : Int)], by simp, by simp; omega, ?_, fun j hj => ?_⟩
        · refine List.pairwise_append.mpr ⟨hp, by simp, fun x hx y hy => ?_⟩
          cases List.mem_singleton.mp hy
          have := hr0 x hx
          omega
        · rcases List.mem_append.mp hj with hj | hj
          · have := hr0 j hj
            omega
          · cases List.mem_singleton.mp hj
            omega
      · exact lcr_sk hacc hH' bb nD hds im b1 ⟨ns, rfl, by omega, hp, fun j hj => by have := hr0 j hj; omega⟩
    · rintro D acc ds H1 hD b1 nD hD1 hds im ⟨ns, rfl, hl, hp, hr0⟩
      cases dpAll_some_ints hds
      walk_at "g"
      refine ⟨Nat.zero_le _, fun p np => ?_⟩
      have s1 : Same H1 (upd H1 p (.lst [])) := Same.new np
      refine w_neD (dp_ints (lstOf (s1 _ _ hD1))) (.lst (lstOf upd_same) .nil) (shaped_ints ns) (by rfl) ?_
      generalize upd H1 p (.lst []) = H2 at *
      rw [eqv_nil]
      walk_at "g"
      have b2 := b1.same s1
      cases ns with
      | cons n r =>
        walk_at "g"
        refine ⟨_, _, rfl, .inl ⟨lstOf (s1 _ _ hD1), fun t nt => ?_⟩⟩
        exact q t (n :: r) _ (b2.new nt) (b2.free nt) upd_same (by omega) (isRow_mk (by simp) hp fun i hi => by have := hr0 i hi; omega)
      | nil =>
        walk_at "g"
        refine ⟨a, m, rfl, b2.d1, by omega, by omega, fun r H3 r0 r1 b3 => ?_⟩
        walk_at "g"
        refine ⟨sz (by simp), fun t nt => ?_⟩
        have b4 := b2.trans b3
        exact q t [r] _ (b4.new nt) (b4.free nt) upd_same (by simp) (isRow_mk (by simp) (by simp) fun i hi => by cases List.mem_singleton.mp hi; omega)
theorem okr__law_condition (T : Tx K mg) : ∀ n : Nat, Ok P w K mg base (4 + n) "_law_condition" ["dice", "deep"] (spLCondR K n) := by
  intro n
  induction n with
  | zero =>
    refine (Ok.bot T.G__law_condition T.F__law_condition (fun _ _ _ _ _ _ us hl => match us, hl with | [_, _], _ => rfl)).imp (fun vs H Q E h => ?_)
    obtain ⟨a, k, rfl, k0, hk, hn, hd, q⟩ := h
    omega
  | succ n ih =>
  refine Ok.mk' (k := 4 + n) T.G__law_condition T.F__law_condition (fun _ _ _ _ _ _ us hl => match us, hl with | [_, _], _ => rfl) sc__law_condition (fun vs H Q E h => ?_) (fun cdv A outer s H vs Q E hr h => ?_)
  · obtain ⟨a, k, rfl, k0, hk, hn, hd, q⟩ := h
    rfl
  · obtain ⟨a, k, rfl, k0, hk, hn, hd, q⟩ := h
    refine ⟨(tSeq (tAsg (tCall (spRoll) [] E (tCons (tVar 0) (tCons (tC (.int 7)) tNil))) (gName 2))
      (tSeq (tIfS (tOr (tTest (tOp oLt (tVar 1) (tC (.int 2)))) (tTest (tOp oLt (tVar 2) (tC (.int 3))))) (tSeq (tAsg (tOp (rIxL K) (tLst (tCons (tC (.str "land")) (tCons (tC (.str "plan")) tNil))) (tCall (spRoll) [] E (tCons (tVar 0) (tCons (tC (.int 2)) tNil)))) (gName 3))
      (tRet (tTup (tCons (tVar 3) (tCons (tCall (spLawRow K) [] E (tCons (tVar 0) (tCons (tIf (tTest (tOp rEq (tVar 3) (tC (.str "land")))) (tC (.int 6)) (tC (.int 4))) tNil))) tNil))))) tNext)
      (tSeq (tIfS (tTest (tOp rEq (tVar 2) (tC (.int 3)))) (tRet (tTup (tCons (tC (.str "not")) (tCons (tCall (spLCondR K n) [] E (tCons (tVar 0) (tCons (tOp oSub (tVar 1) (tC (.int 1))) tNil))) tNil)))) tNext)
      (tSeq (tAsg (tOp oAdd (tC (.int 2)) (tOp oMul (tOp oDiv (tCall (spRoll) [] E (tCons (tVar 0) (tCons (tC (.int 3)) tNil))) (tC (.int 2))) (tCB cInt1 (tCons (tOp oLt (tVar 1) (tC (.int 4))) tNil)))) (gName 4))
      (tRet (tOp (rCatT K) (tTup (tCons (tOp (rIxL K) (tLst (tCons (tC (.str "and")) (tCons (tC (.str "or")) tNil))) (tOp oMod (tVar 2) (tC (.int 2)))) tNil)) (tCB (cTuple K) (tCons (tLc (iRng1 (tCons (tVar 4) tNil)) (gName 5) tYes (tCall (spLCondR K n) [] E0 (tCons (tVar 0) (tCons (tOp oSub (tVar 1) (tC (.int 1))) tNil))) [5]) tNil)))))))), (pss_cons (ps_set (i := 2) sc__law_condition.nd rfl (by first | exact Or.inl rfl | exact Or.inr rfl) (pe_f (ok__law_roll T) hr (pnx (L2N.takes_of rfl rfl rfl rfl)) (pa_cons (pv 0) (pa_cons pe_int pa_nil))))
      (pss_cons (ps_if (PW.pt (pw_or (pt_cmpR op_lt (pv 1) pe_int (nomark _)) (pw_or1 (pt_cmpR op_lt (pv 2) pe_int (nomark _))))) (pss_cons (ps_set (i := 3) sc__law_condition.nd rfl (by first | exact Or.inl rfl | exact Or.inr rfl) (pe_ix ix_list (pe_lst (pa_cons pe_str (pa_cons pe_str pa_nil))) (pe_f (ok__law_roll T) hr (pnx (L2N.takes_of rfl rfl rfl rfl)) (pa_cons (pv 0) (pa_cons pe_int pa_nil))) (fun _ _ => rfl)))
      (pss_one (ps_ret (pe_tup (pa_cons (pv 3) (pa_cons (pe_f (ok__law_row T) hr (pnx (L2N.takes_of rfl rfl rfl rfl)) (pa_cons (pv 0) (pa_cons (pe_ifExp (pt_cmpR op_eq (pv 3) pe_str (nomark _)) pe_int pe_int) pa_nil))) pa_nil)))))) pss_nil)
      (pss_cons (ps_if (pt_cmpR op_eq (pv 2) pe_int (nomark _)) (pss_one (ps_ret (pe_tup (pa_cons pe_str (pa_cons (pe_f ih hr (pnx (L2N.takes_of rfl rfl rfl rfl)) (pa_cons (pv 0) (pa_cons (pe_op op_sub (pv 1) pe_int) pa_nil))) pa_nil))))) pss_nil)
      (pss_cons (ps_set (i := 4) sc__law_condition.nd rfl (by first | exact Or.inl rfl | exact Or.inr rfl) (pe_op op_add pe_int (pe_op op_mul (pe_op op_fdivW (pe_f (ok__law_roll T) hr (pnx (L2N.takes_of rfl rfl rfl rfl)) (pa_cons (pv 0) (pa_cons pe_int pa_nil))) pe_int) (pe_callTy call_int1 (by rfl) T.Z_int (by decide +kernel) (pa_cons (pe_cmpR op_lt (pv 1) pe_int (nomark _)) pa_nil)))))
      (pss_one (ps_ret (pe_op op_catT (pe_tup (pa_cons (pe_ix ix_list (pe_lst (pa_cons pe_str (pa_cons pe_str pa_nil))) (pe_op op_mod (pv 2) pe_int) (fun _ _ => rfl)) pa_nil)) (pe_callTy call_tuple_of (by rfl) T.Z_tuple (by decide +kernel) (pa_cons (pe_lc (own := [("turn", 5)]) rfl sc__law_condition.nd (pi_range1 (by rfl) T.Z_range (pa_cons (pv 4) pa_nil)) (blkOk_by (own := [("turn", 5)]) (N := ["dice", "deep", "way", "word", "parts", "turn"]) (sc := defScope s__law_condition) (by decide +kernel)) (fun _ _ _ _ _ => (pg_name (i := 5) sc__law_condition.nd rfl (by first | exact Or.inl rfl | exact Or.inr rfl))) (fun _ _ _ _ _ => pts_nil) (fun _ _ _ _ _ => (pe_f ih hr pn0 (pa_cons (pv 0) (pa_cons (pe_op op_sub (pv 1) pe_int) pa_nil))))) pa_nil))))))))), ?_⟩
    walk_at "0"
    walk_at "g"
    refine ⟨a, 7, rfl, hd, by decide, by decide, fun way H1 w0 w1 b1 => ?_⟩
    walk_at "s"
    refine evt_use (b := decide ((k : Int) < 2) || decide (way < 3)) (evt_or ?_ fun _ H2 s2 => ?_) fun H2 s2 => ?_
    · intro Q' q'
      walk_at "g"
      exact q' _ (Same.refl _)
    · intro Q' q'
      walk_at "g"
      exact q' _ (Same.refl _)
    have b2 := b1.same s2
    refine if_b (fun hc => ?_) (fun hc => ?_)
    · walk_at "g"
      refine ⟨sz (by simp), fun p np => ?_⟩
      have b3 := b2.new (o := .lst [.str "land", .str "plan"]) np
      walk_at "g"
      refine ⟨a, 2, rfl, b3.d1, by decide, by decide, fun r H3 r0 r1 b4 => ?_⟩
      have hp := b4.kp p _ upd_same (b2.d1.ne np)
      obtain ⟨z, hz, hz2⟩ := atI_twoS (a := "land") (b := "plan") r0 r1
      refine w_ixL (lstOf hp) hz ?_
      walk_at "g"
      have bT := b3.trans b4
      by_cases hl : z = "land"
      · refine if_t (decide_eq_true hl) ?_
        walk_at "g"
        refine ⟨a, 6, rfl, bT.d1, by decide, by decide, fun t ns H4 b5 nt ht hln hrow => ?_⟩
        walk_at "g"
        refine ⟨sz (by simp), fun t2 nt2 => ?_⟩
        exact q _ _ _ ((bT.trans b5).new nt2) (.tup (tupOf upd_same) (.cons (.str z) (.cons (.tup (tup_s (Same.new nt2) (tupOf ht)) (dpAll_ints ns)) .nil))) (condG_leaf k0 (.inl ⟨hl, rfl⟩) hln hrow)
      · refine if_f (decide_eq_false hl) ?_
        have hpl : z = "plan" := by
          rcases hz2 with e | e
          · exact absurd e hl
          · exact e
        walk_at "g"
        refine ⟨a, 4, rfl, bT.d1, by decide, by decide, fun t ns H4 b5 nt ht hln hrow => ?_⟩
        walk_at "g"
        refine ⟨sz (by simp), fun t2 nt2 => ?_⟩
        exact q _ _ _ ((bT.trans b5).new nt2) (.tup (tupOf upd_same) (.cons (.str z) (.cons (.tup (tup_s (Same.new nt2) (tupOf ht)) (dpAll_ints ns)) .nil))) (condG_leaf k0 (.inr ⟨hpl, rfl⟩) hln hrow)
    · have hk2 : 2 ≤ k := by
        simp at hc
        omega
      obtain ⟨j, rfl⟩ : ∃ j, k = j + 1 := ⟨k - 1, by omega⟩
      have ej : (((j + 1 : Nat) : Int) - 1) = ((j : Nat) : Int) := by omega
      walk_at "g"
      refine if_b (fun hw => ?_) (fun hw => ?_)
      · walk_at "g"
        rw [ej]
        refine ⟨a, j, rfl, by omega, by omega, by omega, b2.d1, fun v d H3 b3 hv hG => ?_⟩
        walk_at "g"
        refine ⟨sz (by simp), fun t nt => ?_⟩
        exact q _ _ _ ((b2.trans b3).new nt) (.tup (tupOf upd_same) (.cons (.str _) (.cons (dp_s (Same.new nt) hv) .nil))) (condG_node (by omega) strOk_not (by decide +kernel) (by decide +kernel) (.inr ⟨rfl, rfl⟩) fun y hy => by cases List.mem_singleton.mp hy; exact hG)
      · walk_at "g"
        refine ⟨a, 3, rfl, b2.d1, by decide, by decide, fun r H3 r0 r1 b3 => ?_⟩
        walk_at "g"
        refine w_I (divW (by decide) (by decide)) ?_
        walk_at "g"
        refine w_I (.inr (by split <;> exact ⟨by decide, by decide⟩)) ?_
        walk_at "g"
        have b4 := b2.trans b3
        generalize hparts : 2 + r / 2 * (if decide (((j + 1 : Nat) : Int) < 4) = true then 1 else 0) = parts
        have hp2 : 2 ≤ parts ∧ parts ≤ 3 ∧ (j = 3 → parts = 2) := by
          rw [← hparts]
          split
          · rename_i h4
            simp at h4
            omega
          · omega
        refine ⟨sz (by simp), fun p np => ?_⟩
        have b5 := b4.new (o := .lst [.str "and", .str "or"]) np
        have hp5 : upd H3 p (.lst [.str "and", .str "or"]) p = some (.lst [.str "and", .str "or"]) := upd_same
        generalize upd H3 p (.lst [.str "and", .str "or"]) = H5 at *
        walk_at "g"
        refine w_I (by decide) ?_
        obtain ⟨z, hz, hz2⟩ := atI_twoS (r := way % 2) (a := "and") (b := "or") (Int.emod_nonneg _ (by decide)) (Int.emod_lt_of_pos _ (by decide))
        refine w_ixL (lstOf hp5) hz ?_
        walk_at "g"
        refine ⟨sz (by simp), fun p6 np6 => ?_⟩
        have b6 := b5.new (o := .tup [.str z]) np6
        have hp6 : upd H5 p6 (.tup [.str z]) p6 = some (.tup [.str z]) := upd_same
        generalize upd H5 p6 (.tup [.str z]) = H6 at *
        walk_at "g"
        refine ⟨by omega, by omega, ?_⟩
        refine lc_dice (K := K) (a := a) walk_range (by omega) (fun i ds => ds.length = i ∧ ∀ d ∈ ds, CondG j d) b6.d1 ⟨rfl, fun _ h => by cases h⟩ (fun _ _ => trivial) ?_ ?_
        · rintro D i acc x H' H'' hD hi hacc hH' ⟨bb, nD, ds, hds, im, hl, hG⟩ ⟨rfl, rfl⟩
          walk_at "g"
          refine ⟨rfl, ?_⟩
          walk_at "g"
          rw [ej]
          refine ⟨a, j, rfl, by omega, by omega, by omega, bb.d1, fun v d H7 b7 hv hGd => ?_⟩
          refine lcr_nx hD (by omega) hacc hH' bb nD hds im b7 hv hGd.im ⟨by simp [hl], fun e he => ?_⟩
          rcases List.mem_append.mp he with he | he
          · exact hG e he
          · cases List.mem_singleton.mp he
            exact hGd
        · rintro D acc ds H7 hD b7 nD hD7 hds im ⟨hl, hG⟩
          walk_at "g"
          refine ⟨_, _, rfl, .inl ⟨lstOf hD7, fun t nt => ?_⟩⟩
          have b8 := (b6.trans b7).new (o := .tup acc) nt
          have hp8 : SqT K (upd H7 t (.tup acc)) p6 [.str z] := tup_s (Same.new nt) (b7.tup (tupOf hp6))
          have hds8 := dps_s (Same.new (o := .tup acc) nt) hds
          have ht8 : upd H7 t (.tup acc) t = some (.tup acc) := upd_same
          generalize upd H7 t (.tup acc) = H8 at *
          have hal := dpAll_len hds8
          cases hds8 with
          | nil =>
            simp at hl
            omega
          | cons hv hvs =>
          rename_i v0 vs0 d0 ds0
          simp only [List.length_cons] at hl hal
          refine w_catT hp8 (tupOf ht8) (by simp; omega) fun t2 nt2 => ?_
          have s9 : Same H8 (upd H8 t2 (.tup ([.str z] ++ v0 :: vs0))) := Same.new nt2
          refine q _ (.tuple (.str z :: d0 :: ds0)) _ (b8.new nt2) (.tup (tupOf upd_same) (.cons (.str z) (.cons (dp_s s9 hv) (dps_s s9 hvs)))) (condG_node (by omega) ?_ ?_ ?_ (.inl ⟨hz2, by omega, by omega, fun e => by have := hp2.2.2 e; omega⟩) hG)
          · rcases hz2 with rfl | rfl
            · exact strOk_and
            · exact strOk_or
          · rcases hz2 with rfl | rfl <;> decide +kernel
          · rcases hz2 with rfl | rfl <;> decide +kernel
theorem ok__law_condition (T : Tx K mg) : Ok P w K mg base 9 "_law_condition" ["dice", "deep"] (spLCondR K 5) := okr__law_condition T 5
theorem ok__law_rules (T : Tx K mg) : Ok P w K mg base 10 "_law_rules" ["dice", "deep"] (spLRules K) := by
  refine Ok.mk' T.G__law_rules T.F__law_rules (fun _ _ _ _ _ _ us hl => match us, hl with | [_, _], _ => rfl) sc__law_rules (fun vs H Q E h => ?_) (fun cdv A outer s H vs Q E hr h => ?_)
  · obtain ⟨a, k, rfl, k0, k1, hd, q⟩ := h
    rfl
  · obtain ⟨a, k, rfl, k0, k1, hd, q⟩ := h
    refine ⟨(tSeq (tAsg (tLst tNil) (gName 2))
      (tSeq (tFor (iRng1 (tCons (tCall (spRoll) [] E (tCons (tVar 0) (tCons (tC (.int 4)) tNil))) tNil)) (gName 3) (tSeq (tAsg (tOp (rIxL K) (tLst (tCons (tC (.int 0)) (tCons (tC (.int 100)) (tCons (tC (.int 1)) (tCons (tC (.int 99)) (tCons (tCall (spRoll) [] E (tCons (tVar 0) (tCons (tC (.int 101)) tNil))) (tCons (tCall (spRoll) [] E (tCons (tVar 0) (tCons (tC (.int 101)) tNil))) tNil))))))) (tCall (spRoll) [] E (tCons (tVar 0) (tCons (tC (.int 6)) tNil)))) (gName 4))
      (tDrop (tBM K "list" rAppend (tVar 2) (tCons (tTup (tCons (tCall (spLCondR K 5) [] E (tCons (tVar 0) (tCons (tVar 1) tNil))) (tCons (tVar 4) tNil))) tNil)))))
      (tSeq (tIfS (tTest (tOp rEq (tCall (spRoll) [] E (tCons (tVar 0) (tCons (tC (.int 3)) tNil))) (tC (.int 0)))) (tDrop (tBM K "list" rAppend (tVar 2) (tCons (tTup (tCons (tTup (tCons (tC (.str "plan")) (tCons (tTup (tCons (tC (.int 0)) (tCons (tC (.int 1)) (tCons (tC (.int 2)) (tCons (tC (.int 3)) tNil))))) tNil))) (tCons (tCall (spRoll) [] E (tCons (tVar 0) (tCons (tC (.int 101)) tNil))) tNil))) tNil))) tNext)
      (tRet (tCB (cTuple K) (tCons (tVar 2) tNil)))))), (pss_cons (ps_set (i := 2) sc__law_rules.nd rfl (by first | exact Or.inl rfl | exact Or.inr rfl) (pe_lst pa_nil))
      (pss_cons (ps_for (passes_of rfl) rfl (pi_range1 (by rfl) T.Z_range (pa_cons (pe_f (ok__law_roll T) hr (pnx (L2N.takes_of rfl rfl rfl rfl)) (pa_cons (pv 0) (pa_cons pe_int pa_nil))) pa_nil)) (pg_name (i := 3) sc__law_rules.nd rfl (by first | exact Or.inl rfl | exact Or.inr rfl)) (pss_cons (ps_set (i := 4) sc__law_rules.nd rfl (by first | exact Or.inl rfl | exact Or.inr rfl) (pe_ix ix_list (pe_lst (pa_cons pe_int (pa_cons pe_int (pa_cons pe_int (pa_cons pe_int (pa_cons (pe_f (ok__law_roll T) hr (pnx (L2N.takes_of rfl rfl rfl rfl)) (pa_cons (pv 0) (pa_cons pe_int pa_nil))) (pa_cons (pe_f (ok__law_roll T) hr (pnx (L2N.takes_of rfl rfl rfl rfl)) (pa_cons (pv 0) (pa_cons pe_int pa_nil))) pa_nil))))))) (pe_f (ok__law_roll T) hr (pnx (L2N.takes_of rfl rfl rfl rfl)) (pa_cons (pv 0) (pa_cons pe_int pa_nil))) (fun _ _ => rfl)))
      (pss_one (ps_expr (pe_bm PySem.F.plainAttrs_list PySem.F.slot_list_append PySem.F.type_list_append mt_append (pv 2) (pa_cons (pe_tup (pa_cons (pe_f (ok__law_condition T) hr (pnx (L2N.takes_of rfl rfl rfl rfl)) (pa_cons (pv 0) (pa_cons (pv 1) pa_nil))) (pa_cons (pv 4) pa_nil))) pa_nil))))))
      (pss_cons (ps_if (pt_cmpR op_eq (pe_f (ok__law_roll T) hr (pnx (L2N.takes_of rfl rfl rfl rfl)) (pa_cons (pv 0) (pa_cons pe_int pa_nil))) pe_int (nomark _)) (pss_one (ps_expr (pe_bm PySem.F.plainAttrs_list PySem.F.slot_list_append PySem.F.type_list_append mt_append (pv 2) (pa_cons (pe_tup (pa_cons (pe_tup (pa_cons pe_str (pa_cons (pe_tup (pa_cons pe_int (pa_cons pe_int (pa_cons pe_int (pa_cons pe_int pa_nil))))) pa_nil))) (pa_cons (pe_f (ok__law_roll T) hr (pnx (L2N.takes_of rfl rfl rfl rfl)) (pa_cons (pv 0) (pa_cons pe_int pa_nil))) pa_nil))) pa_nil)))) pss_nil)
      (pss_one (ps_ret (pe_callTy call_tuple_of (by rfl) T.Z_tuple (by decide +kernel) (pa_cons (pv 2) pa_nil))))))), ?_⟩
    walk_at "0"
    walk_at "g"
    refine ⟨sz (by simp), fun L nL => ?_⟩
    have b0 := (But.refl hd).new (o := .lst []) nL
    have nLa := hd.ne nL
    have hL0 : upd H L (.lst []) L = some (.lst []) := upd_same
    generalize upd H L (.lst []) = H0 at *
    walk_at "g"
    refine ⟨a, 4, rfl, b0.d1, by decide, by decide, fun n H1 n0 n1 b1 => ?_⟩
    walk_at "g"
    refine ⟨by omega, by omega, ?_⟩
    have hL1 := b1.kp _ _ hL0 nLa
    refine for_go walk_range (fun i σ H' => (∃ x3 x4, σ = [some (.ref a), some (.int (k : Nat)), some (.ref L), x3, x4]) ∧ But a H H' ∧ ∃ xs ds, H' L = some (.lst xs) ∧ DpAll K H' xs ds ∧ ds.length ≤ i ∧ ∀ d ∈ ds, RuleG d) ⟨⟨_, _, rfl⟩, b0.trans b1, [], [], hL1, .nil, Nat.le_refl _, fun _ h => by cases h⟩ (fun _ _ _ _ _ => trivial) ?_ ?_
    · rintro i x σ H2 H2' hi ⟨⟨x3, x4, rfl⟩, b2, xs, ds, hL2, hxs, hl, hG⟩ ⟨rfl, rfl⟩
      walk_at "g"
      refine ⟨a, 101, rfl, b2.d1, by decide, by decide, fun r1 H3 r10 r11 b3 => ?_⟩
      walk_at "g"
      refine ⟨a, 101, rfl, b3.d1, by decide, by decide, fun r2 H4 r20 r21 b4 => ?_⟩
      walk_at "g"
      refine ⟨sz (by simp), fun p np => ?_⟩
      have b5 := ((b2.trans b3).trans b4).new (o := .lst [.int 0, .int 100, .int 1, .int 99, .int r1, .int r2]) np
      have hp5 : upd H4 p (.lst [.int 0, .int 100, .int 1, .int 99, .int r1, .int r2]) p = some (.lst [.int 0, .int 100, .int 1, .int 99, .int r1, .int r2]) := upd_same
      have b45 : But a H4 (upd H4 p (.lst [.int 0, .int 100, .int 1, .int 99, .int r1, .int r2])) := But.of b4.d1 (Same.new np)
      have npa := b4.d1.ne np
      generalize upd H4 p (.lst [.int 0, .int 100, .int 1, .int 99, .int r1, .int r2]) = H5 at *
      walk_at "g"
      refine ⟨a, 6, rfl, b5.d1, by decide, by decide, fun r3 H6 r30 r31 b6 => ?_⟩
      obtain ⟨m, hm, hm2⟩ := atI_sixI (a := 0) (b := 100) (c := 1) (d := 99) (e := r1) (f := r2) r30 r31
      refine w_ixL (lstOf (b6.kp _ _ hp5 npa)) hm ?_
      have m01 : 0 ≤ m ∧ m ≤ 100 := by omega
      walk_at "g"
      have b26 := ((b3.trans b4).trans b45).trans b6
      have hL6 := b26.kp _ _ hL2 nLa
      refine ⟨tyL hL6, ?_⟩
      walk_at "g"
      refine ⟨a, k, rfl, k0, by omega, by omega, b6.d1, fun v c H7 b7 hv hG7 => ?_⟩
      walk_at "g"
      refine ⟨sz (by simp), fun t nt => ?_⟩
      have b27 := (b26.trans b7).new (o := .tup [v, .int m]) nt
      have hL8 := b27.kp _ _ hL2 nLa
      have hds := RulesG.imm (ds := ds) ⟨by omega, hG⟩
      have hxs8 := b27.dpAll hds hxs
      have hn8 : Dp K (upd H7 t (.tup [v, .int m])) (.ref t) (.tuple [c, .int m]) := .tup (tupOf upd_same) (.cons (dp_s (Same.new nt) hv) (.cons (.int m) .nil))
      have hr8 : RuleG (.tuple [c, .int m]) := ⟨c, m, k, rfl, by omega, hG7, m01.1, m01.2⟩
      generalize upd H7 t (.tup [v, .int m]) = H8 at *
      have hxl := dpAll_len hxs8
      walk_at "g"
      refine w_app hL8 (by omega) ?_
      walk_at "g"
      refine ⟨⟨_, _, rfl⟩, (b2.trans b27).mut nL nLa, xs ++ [.ref t], ds ++ [.tuple [c, .int m]], upd_same, ?_, by simp; omega, fun d hd => ?_⟩
      · refine dpAll_mut hL8 ?_ (dpAll_app hxs8 (.cons hn8 .nil))
        rw [immAll_app, hds]
        simp only [immAll, hr8.imm, Bool.and_self]
      · rcases List.mem_append.mp hd with hd | hd
        · exact hG d hd
        · cases List.mem_singleton.mp hd
          exact hr8
    · rintro σ H2 ⟨⟨x3, x4, rfl⟩, b2, xs, ds, hL2, hxs, hl, hG⟩
      have hl3 : ds.length ≤ 3 := by omega
      walk_at "g"
      refine ⟨a, 3, rfl, b2.d1, by decide, by decide, fun r H3 r0 r1 b3 => ?_⟩
      walk_at "g"
      have hds := RulesG.imm (ds := ds) ⟨by omega, hG⟩
      have hL3 := b3.kp _ _ hL2 nLa
      have hxs3 := b3.dpAll hds hxs
      have bT := b2.trans b3
      have hxl := dpAll_len hxs3
      refine if_b (fun _ => ?_) (fun _ => ?_)
      · walk_at "g"
        refine ⟨tyL hL3, ?_⟩
        walk_at "g"
        refine ⟨sz (by simp), fun t1 nt1 => ?_⟩
        have b4 : But a H3 (upd H3 t1 (.tup [.int 0, .int 1, .int 2, .int 3])) := But.of b3.d1 (Same.new nt1)
        have ht1 : upd H3 t1 (.tup [.int 0, .int 1, .int 2, .int 3]) t1 = some (.tup [.int 0, .int 1, .int 2, .int 3]) := upd_same
        generalize upd H3 t1 (.tup [.int 0, .int 1, .int 2, .int 3]) = H4 at *
        walk_at "g"
        refine ⟨sz (by simp), fun t2 nt2 => ?_⟩
        have b5 := b4.new (o := .tup [.str "plan", .ref t1]) nt2
        have hc5 : Dp K (upd H4 t2 (.tup [.str "plan", .ref t1])) (.ref t2) (.tuple [.str "plan", .tuple (([0, 1, 2, 3] : List Int).map PyData.int)]) := .tup (tupOf upd_same) (.cons (.str _) (.cons (.tup (tup_s (Same.new nt2) (tupOf ht1)) (dpAll_ints [0, 1, 2, 3])) .nil))
        generalize upd H4 t2 (.tup [.str "plan", .ref t1]) = H5 at *
        walk_at "g"
        refine ⟨a, 101, rfl, b5.d1, by decide, by decide, fun m H6 m0 m1 b6 => ?_⟩
        walk_at "g"
        refine ⟨sz (by simp), fun t3 nt3 => ?_⟩
        have hGc : CondG 1 (.tuple [.str "plan", .tuple (([0, 1, 2, 3] : List Int).map PyData.int)]) := condG_leaf (by decide) (.inr ⟨rfl, rfl⟩) (by decide) (by decide +kernel)
        have hr8 : RuleG (.tuple [.tuple [.str "plan", .tuple (([0, 1, 2, 3] : List Int).map PyData.int)], .int m]) := ⟨_, m, 1, rfl, by omega, hGc, m0, by omega⟩
        have hn8 : Dp K (upd H6 t3 (.tup [.ref t2, .int m])) (.ref t3) (.tuple [.tuple [.str "plan", .tuple (([0, 1, 2, 3] : List Int).map PyData.int)], .int m]) := .tup (tupOf upd_same) (.cons (dp_s (Same.new nt3) (b6.dp hGc.im hc5)) (.cons (.int m) .nil))
        have b7 := (b5.trans b6).new (o := .tup [.ref t2, .int m]) nt3
        generalize upd H6 t3 (.tup [.ref t2, .int m]) = H7 at *
        have hL7 := b7.kp _ _ hL3 nLa
        have hxs7 := b7.dpAll hds hxs3
        walk_at "g"
        refine w_app hL7 (by omega) ?_
        have hi8 : immAll (ds ++ [.tuple [.tuple [.str "plan", .tuple (([0, 1, 2, 3] : List Int).map PyData.int)], .int m]]) = true := by
          rw [immAll_app, hds]
          simp only [immAll, hr8.imm, Bool.and_self]
        have hxs8 := dpAll_mut (o := .lst (xs ++ [.ref t3])) hL7 hi8 (dpAll_app hxs7 (.cons hn8 .nil))
        have b8 := (bT.trans b7).mut (o := .lst (xs ++ [.ref t3])) nL nLa
        have hL8 : upd H7 L (.lst (xs ++ [.ref t3])) L = some (.lst (xs ++ [.ref t3])) := upd_same
        generalize upd H7 L (.lst (xs ++ [.ref t3])) = H8 at *
        walk_at "g"
        refine ⟨_, _, rfl, .inl ⟨lstOf hL8, fun t nt => ?_⟩⟩
        refine q _ _ _ (b8.new nt) (.tup (tupOf upd_same) (dps_s (Same.new nt) hxs8)) ⟨by simp; omega, fun d hd => ?_⟩
        rcases List.mem_append.mp hd with hd | hd
        · exact hG d hd
        · cases List.mem_singleton.mp hd
          exact hr8
      · walk_at "g"
        refine ⟨_, _, rfl, .inl ⟨lstOf hL3, fun t nt => ?_⟩⟩
        exact q _ _ _ (bT.new nt) (.tup (tupOf upd_same) (dps_s (Same.new nt) hxs3)) ⟨by omega, hG⟩
theorem ok__law_deed (T : Tx K mg) : Ok P w K mg base 11 "_law_deed" ["dice", "table"] (spLDeed K) := by
  refine Ok.mk' T.G__law_deed T.F__law_deed (fun _ _ _ _ _ _ us hl => match us, hl with | [_, _], _ => rfl) sc__law_deed (fun vs H Q E h => ?_) (fun cdv A outer s H vs Q E hr h => ?_)
  · obtain ⟨a, Tb, t, rfl, hd, hX, ok, q⟩ := h
    rfl
  · obtain ⟨a, Tb, t, rfl, hd, hX, ok, q⟩ := h
    refine ⟨(tSeq (tPar 2 3 (tCons (tCall (spRoll) [] E (tCons (tVar 0) (tCons (tC (.int 10)) tNil))) (tCons (tCall (spLName K) [] E (tCons (tVar 0) tNil)) tNil)))
      (tSeq (tIfS (tOr (tTest (tOp oLt (tVar 2) (tC (.int 3)))) (tTest (tOp oLt (tCB rLenD (tCons (tVar 1) tNil)) (tC (.int 2))))) (tRet (tTup (tCons (tC (.str "put")) (tCons (tVar 3) (tCons (tCall (spDeal K) [] E (tCons (tVar 0) tNil)) (tCons (tCall (spLRules K) [] E (tCons (tVar 0) (tCons (tC (.int 2)) tNil))) tNil)))))) tNext)
      (tSeq (tIfS (tTest (tOp oLt (tVar 2) (tC (.int 5)))) (tRet (tTup (tCons (tC (.str "rule")) (tCons (tVar 3) (tCons (tCall (spLRules K) [] E (tCons (tVar 0) (tCons (tC (.int 2)) tNil))) tNil))))) tNext)
      (tSeq (tIfS (tTest (tOp oLt (tVar 2) (tC (.int 8)))) (tRet (tTup (tCons (tC (.str "need")) (tCons (tVar 3) (tCons (tCB (cTuple K) (tCons (tLc (iList K (tCB rSortDS (tCons (tVar 1) tNil))) (gName 4) (tTest (tOp rEq (tCall (spRoll) [] E0 (tCons (tVar 0) (tCons (tC (.int 3)) tNil))) (tC (.int 0)))) (tVar 4) [4]) tNil)) tNil))))) tNext)
      (tSeq (tIfS (tTest (tOp rEq (tVar 2) (tC (.int 8)))) (tRet (tTup (tCons (tC (.str "dark")) (tCons (tVar 3) (tCons (tOp rEq (tCall (spRoll) [] E (tCons (tVar 0) (tCons (tC (.int 2)) tNil))) (tC (.int 0))) tNil))))) tNext)
      (tRet (tTup (tCons (tC (.str "drop")) (tCons (tVar 3) tNil))))))))), (pss_cons (ps_par (by rfl) sc__law_deed.nd rfl rfl (by decide) rfl rfl (pa_cons (pe_f (ok__law_roll T) hr (pnx (L2N.takes_of rfl rfl rfl rfl)) (pa_cons (pv 0) (pa_cons pe_int pa_nil))) (pa_cons (pe_f (ok__law_name T) hr (pnx (L2N.takes_of rfl rfl rfl rfl)) (pa_cons (pv 0) pa_nil)) pa_nil)) (by rfl))
      (pss_cons (ps_if (PW.pt (pw_or (pt_cmpR op_lt (pv 2) pe_int (nomark _)) (pw_or1 (pt_cmpR op_lt (pe_callB call_lenD (by rfl) T.Z_len (by decide +kernel) (pa_cons (pv 1) pa_nil)) pe_int (nomark _))))) (pss_one (ps_ret (pe_tup (pa_cons pe_str (pa_cons (pv 3) (pa_cons (pe_f (ok__law_deal T) hr (pnx (L2N.takes_of rfl rfl rfl rfl)) (pa_cons (pv 0) pa_nil)) (pa_cons (pe_f (ok__law_rules T) hr (pnx (L2N.takes_of rfl rfl rfl rfl)) (pa_cons (pv 0) (pa_cons pe_int pa_nil))) pa_nil))))))) pss_nil)
      (pss_cons (ps_if (pt_cmpR op_lt (pv 2) pe_int (nomark _)) (pss_one (ps_ret (pe_tup (pa_cons pe_str (pa_cons (pv 3) (pa_cons (pe_f (ok__law_rules T) hr (pnx (L2N.takes_of rfl rfl rfl rfl)) (pa_cons (pv 0) (pa_cons pe_int pa_nil))) pa_nil)))))) pss_nil)
      (pss_cons (ps_if (pt_cmpR op_lt (pv 2) pe_int (nomark _)) (pss_one (ps_ret (pe_tup (pa_cons pe_str (pa_cons (pv 3) (pa_cons (pe_callTy call_tuple_of (by rfl) T.Z_tuple (by decide +kernel) (pa_cons (pe_lc (own := [("other", 4)]) rfl sc__law_deed.nd (pi_list (pe_callB (call_sortedD rfl) (by rfl) T.Z_sorted (by decide +kernel) (pa_cons (pv 1) pa_nil))) (blkOk_by (own := [("other", 4)]) (N := ["dice", "table", "way", "name", "other"]) (sc := defScope s__law_deed) (by decide +kernel)) (fun _ _ _ _ _ => (pg_name (i := 4) sc__law_deed.nd rfl (by first | exact Or.inl rfl | exact Or.inr rfl))) (fun _ _ _ _ _ => (pts_one (pt_cmpR op_eq (pe_f (ok__law_roll T) hr pn0 (pa_cons (pv 0) (pa_cons pe_int pa_nil))) pe_int (nomark _)))) (fun _ _ _ _ _ => (pv 4))) pa_nil)) pa_nil)))))) pss_nil)
      (pss_cons (ps_if (pt_cmpR op_eq (pv 2) pe_int (nomark _)) (pss_one (ps_ret (pe_tup (pa_cons pe_str (pa_cons (pv 3) (pa_cons (pe_cmpR op_eq (pe_f (ok__law_roll T) hr (pnx (L2N.takes_of rfl rfl rfl rfl)) (pa_cons (pv 0) (pa_cons pe_int pa_nil))) pe_int (nomark _)) pa_nil)))))) pss_nil)
      (pss_one (ps_ret (pe_tup (pa_cons pe_str (pa_cons (pv 3) pa_nil)))))))))), ?_⟩
    walk_at "0"
    walk_at "g"
    refine ⟨a, 10, rfl, hd, by decide, by decide, fun way H1 w0 w1 b1 => ?_⟩
    walk_at "g"
    refine ⟨a, rfl, b1.d1, fun z H2 b2 hz => ?_⟩
    have b02 := b1.trans b2
    refine w_nil ⟨_, _, rfl, ?_⟩
    walk_at "p"
    refine evt_use (b := decide (way < 3) || decide (t.length < 2)) (evt_or (evt_test fun Q' q' => ?_) fun _ H' s' => evt_test fun Q' q' => ?_) fun H3 s3 => ?_
    · walk_at "g"
      exact q' _ (Same.refl _)
    · obtain ⟨kvs, hk, hr2⟩ := (hX.but ok b02).s s'
      walk_at "g"
      refine w_lenK hk ?_
      rw [hr2.len]
      walk_at "g"
      have e : decide ((t.length : Int) < 2) = decide (t.length < 2) := by
        apply Bool.eq_iff_iff.mpr
        rw [decide_eq_true_eq, decide_eq_true_eq]
        omega
      rw [e]
      exact q' _ (Same.refl _)
    have b03 := b02.same s3
    refine if_b (fun _ => ?_) (fun _ => ?_)
    · walk_at "g"
      refine ⟨a, rfl, b03.d1, fun p s' t' H4 b4 np hp hdl => ?_⟩
      walk_at "g"
      refine ⟨a, 2, rfl, by decide, by decide, b4.d1, fun vr rs H5 b5 hvr hG => ?_⟩
      walk_at "g"
      refine w_newT (by simp) fun p2 H6 s6 np2 hp2 => ?_
      refine q _ (.put z (.tuple [.int s', .int t']) rs) H6 (((b03.trans b4).trans b5).same s6) (.tup (tupOf hp2) (.cons (.str _) (.cons (.str _) (.cons (.tup (tup_s s6 (b5.tup (tupOf hp))) (.cons (.int _) (.cons (.int _) .nil))) (.cons (dp_s s6 hvr) .nil))))) ⟨hz, hdl, hG⟩
    walk_at "g"
    refine if_b (fun _ => ?_) (fun _ => ?_)
    · walk_at "g"
      refine ⟨a, 2, rfl, by decide, by decide, b03.d1, fun vr rs H5 b5 hvr hG => ?_⟩
      walk_at "g"
      refine w_newT (by simp) fun p2 H6 s6 np2 hp2 => ?_
      exact q _ (.rule z rs) H6 ((b03.trans b5).same s6) (.tup (tupOf hp2) (.cons (.str _) (.cons (.str _) (.cons (dp_s s6 hvr) .nil)))) ⟨hz, hG⟩
    walk_at "g"
    refine if_b (fun _ => ?_) (fun _ => ?_)
    · obtain ⟨kvs, hk, hr2⟩ := (hX.but ok b02).s s3
      walk_at "g"
      refine w_sortT (.inl hk) hr2 ok.len fun ys F H4 y s4 nF hF => ?_
      have b04 := b03.same s4
      have hyl := y.len
      have hok := ok.len
      refine ⟨F, rfl, ⟨_, lstOf hF⟩, ?_⟩
      have nFa : F ≠ a := b03.d1.ne nF
      refine lc_dice (K := K) (a := a) (walk_list (K := K) (a := F) (xs := ys.map V.str)) (by rw [List.length_map]; omega) (fun i es => ∃ ns : List Str, es = ns.map PyData.str ∧ ns.Sublist (ys.take i)) b04.d1 ⟨[], rfl, by simp⟩ (fun H' b => lstOf (b.kp _ _ hF nFa)) ?_ ?_
      · rintro D i acc x H' H'' hD hi hacc hH' ⟨bb, nD, es, hes, im, ns, rfl, hsub⟩ ⟨rfl, hxi⟩
        rw [List.length_map] at hi
        rw [List.getElem?_map] at hxi
        obtain ⟨o, ho, rfl⟩ := Option.map_eq_some_iff.mp hxi
        have etk : ys.take (i + 1) = ys.take i ++ [o] := by rw [List.take_add_one, ho]; rfl
        walk_at "g"
        refine ⟨rfl, ?_⟩
        walk_at "g"
        refine ⟨a, 3, rfl, bb.d1, by decide, by decide, fun r H5 r0 r1 b5 => ?_⟩
        walk_at "g"
        refine if_b (fun _ => ?_) (fun _ => ?_)
        · walk_at "g"
          refine lcr_nx (d := .str o) hD (by omega) hacc hH' bb nD hes im b5 (.str o) rfl ⟨ns ++ [o], by simp, ?_⟩
          rw [etk]
          exact hsub.append (List.Sublist.refl _)
        · refine lcr_sk hacc hH' bb nD hes im b5 ⟨ns, rfl, ?_⟩
          rw [etk]
          exact hsub.trans (List.sublist_append_left _ _)
      · rintro D acc es H5 hD b5 nD hD1 hes im ⟨ns, rfl, hsub⟩
        rw [List.length_map, List.take_of_length_le (Nat.le_refl _)] at hsub
        walk_at "g"
        refine w_tupleD (lstOf hD1) hes fun u H6 s6 hu hdu => ?_
        walk_at "g"
        refine w_newT (by simp) fun p2 H7 s7 np2 hp2 => ?_
        refine q _ (.need z ns) H7 (((b04.trans b5).same s6).same s7) (.tup (tupOf hp2) (.cons (.str _) (.cons (.str _) (.cons (dp_s s7 hdu) .nil)))) ⟨hz, fun m hm => y.mem.mp (hsub.subset hm), ?_⟩
        exact ris_sub y.srt (y.perm.nodup_iff.mpr ok.nd) hsub
    walk_at "g"
    refine if_b (fun _ => ?_) (fun _ => ?_)
    · walk_at "g"
      refine ⟨a, 2, rfl, b03.d1, by decide, by decide, fun r H5 r0 r1 b5 => ?_⟩
      walk_at "g"
      refine w_newT (by simp) fun p2 H6 s6 np2 hp2 => ?_
      exact q _ (.dark z (decide (r = 0))) H6 ((b03.trans b5).same s6) (.tup (tupOf hp2) (.cons (.str _) (.cons (.str _) (.cons (.bl _) .nil)))) hz
    · walk_at "g"
      refine w_newT (by simp) fun p2 H6 s6 np2 hp2 => ?_
      exact q _ (.drop z) H6 (b03.same s6) (.tup (tupOf hp2) (.cons (.str _) (.cons (.str _) .nil))) hz
theorem word_ok (T : Tx K mg) : ∃ fd, FnW P w K mg base 1 (He.ga K "_law_word") fd ["e"] (spWord K) ∧ BindsE fd ["e"] ∧ PySem.W.keepIn K (.ref (He.ga K "_law_word")) = true := by
  obtain ⟨fd, F⟩ := T.F__law_word
  refine ⟨fd, fnW_of F sc__law_word (fun p vs H Q E h => ?_) (fun cdv A outer s H vs Q E p hot1 hr h => ?_), F.bindsA (fun _ _ _ _ _ _ us hl => match us, hl with | [_], _ => rfl), F.kp⟩
  · obtain ⟨rfl, _⟩ := h
    rfl
  · obtain ⟨rfl, c, d, hc, hz, hf, hd, q⟩ := h
    have hC := T.W.exc c hc
    have hk := T.W.kit c hc
    have hot : L2H.HotC (L2H.cxH (CXN P w) P w K mg base ["e", "flags", "words", "flag"] "_law_word" (defScope s__law_word) (He.ga K "_law_word") cdv A outer s H E p) := ⟨p, hot1, List.mem_singleton.mpr rfl⟩
    refine ⟨(tSeq (tAsg (tLst (tCons (tCB (rIsP K (He.ga K c) p.1 d) (tCons (tVar 0) (tCons (tC (.ref (He.ga K "BadUser"))) tNil))) (tCons (tCB (rIsP K (He.ga K c) p.1 d) (tCons (tVar 0) (tCons (tC (.ref (He.ga K "BadDeal"))) tNil))) (tCons (tCB (rIsP K (He.ga K c) p.1 d) (tCons (tVar 0) (tCons (tC (.ref (He.ga K "BadCondition"))) tNil))) (tCons (tCB (rIsP K (He.ga K c) p.1 d) (tCons (tVar 0) (tCons (tC (.ref (He.ga K "BadRules"))) tNil))) tNil))))) (gName 1))
      (tSeq (tAsg (tOp rCat (tVar 1) (tLst (tCons (tCB (rIsP K (He.ga K c) p.1 d) (tCons (tVar 0) (tCons (tC (.ref (He.ga K "BadName"))) tNil))) (tCons (tCB (rIsP K (He.ga K c) p.1 d) (tCons (tVar 0) (tCons (tC (.ref (He.ga K "BadNumber"))) tNil))) (tCons (tCB (rIsP K (He.ga K c) p.1 d) (tCons (tVar 0) (tCons (tC (.ref (He.ga K "Known"))) tNil))) (tCons (tCB (rIsP K (He.ga K c) p.1 d) (tCons (tVar 0) (tCons (tC (.ref (He.ga K "Needed"))) tNil))) tNil)))))) (gName 1))
      (tSeq (tAsg (tOp rCat (tVar 1) (tLst (tCons (tCB (rIsP K (He.ga K c) p.1 d) (tCons (tVar 0) (tCons (tC (.ref (He.ga K "Ring"))) tNil))) (tCons (tCB (rIsP K (He.ga K c) p.1 d) (tCons (tVar 0) (tCons (tC (.ref (He.ga K "Full"))) tNil))) (tCons (tCB (rIsP K (He.ga K c) p.1 d) (tCons (tVar 0) (tCons (tC (.ref (He.ga K "BadDay"))) tNil))) (tCons (tCB (rIsP K (He.ga K c) p.1 d) (tCons (tVar 0) (tCons (tC (.ref (He.ga K "Nothing"))) tNil))) tNil)))))) (gName 1))
      (tSeq (tDrop (tBM K "list" rAppend (tVar 1) (tCons (tCB (rIsP K (He.ga K c) p.1 d) (tCons (tVar 0) (tCons (tC (.ref (He.ga K "BadText"))) tNil))) tNil)))
      (tSeq (tAsg (tLst (tCons (tC (.str "BadUser")) (tCons (tC (.str "BadDeal")) (tCons (tC (.str "BadCondition")) (tCons (tC (.str "BadRules")) (tCons (tC (.str "BadName")) (tCons (tC (.str "BadNumber")) (tCons (tC (.str "Known")) (tCons (tC (.str "Needed")) (tCons (tC (.str "Ring")) tNil)))))))))) (gName 2))
      (tSeq (tIfS (tOr (tTest (tOp rNe (tCB (rSum K) (tCons (tLcH K (tVar 1) (gName 3) (tCB cInt1 (tCons (tVar 3) tNil)) [3]) tNil)) (tC (.int 1)))) (tNot (tB (tCB (rIsP K (He.ga K c) p.1 d) (tCons (tVar 0) (tCons (tC (.ty "ValueError")) tNil)))))) (tRet (tTup (tCons (tC (.str "refused")) (tCons (tC (.str "other")) tNil)))) tNext)
      (tRet (tTup (tCons (tC (.str "refused")) (tCons (tOp (rIxL K) (tOp rCat (tVar 2) (tLst (tCons (tC (.str "Full")) (tCons (tC (.str "BadDay")) (tCons (tC (.str "Nothing")) (tCons (tC (.str "BadText")) tNil)))))) (tBM K "list" (rIndexD K) (tVar 1) (tCons (tC (.bl true)) tNil))) tNil)))))))))), (pss_cons (ps_set (i := 1) sc__law_word.nd rfl (by first | exact Or.inl rfl | exact Or.inr rfl) (pe_lst (pa_cons (pe_callB (call_isP (p := p) (List.mem_singleton.mpr rfl) hC hz hf) (by rfl) T.Z_isinstance (by decide +kernel) (pa_cons (pv 0) (pa_cons (pe_glob (by rfl) T.G_BadUser rfl) pa_nil))) (pa_cons (pe_callB (call_isP (p := p) (List.mem_singleton.mpr rfl) hC hz hf) (by rfl) T.Z_isinstance (by decide +kernel) (pa_cons (pv 0) (pa_cons (pe_glob (by rfl) T.G_BadDeal rfl) pa_nil))) (pa_cons (pe_callB (call_isP (p := p) (List.mem_singleton.mpr rfl) hC hz hf) (by rfl) T.Z_isinstance (by decide +kernel) (pa_cons (pv 0) (pa_cons (pe_glob (by rfl) T.G_BadCondition rfl) pa_nil))) (pa_cons (pe_callB (call_isP (p := p) (List.mem_singleton.mpr rfl) hC hz hf) (by rfl) T.Z_isinstance (by decide +kernel) (pa_cons (pv 0) (pa_cons (pe_glob (by rfl) T.G_BadRules rfl) pa_nil))) pa_nil))))))
      (pss_cons (ps_set (i := 1) sc__law_word.nd rfl (by first | exact Or.inl rfl | exact Or.inr rfl) (pe_op op_cat (pv 1) (pe_lst (pa_cons (pe_callB (call_isP (p := p) (List.mem_singleton.mpr rfl) hC hz hf) (by rfl) T.Z_isinstance (by decide +kernel) (pa_cons (pv 0) (pa_cons (pe_glob (by rfl) T.G_BadName rfl) pa_nil))) (pa_cons (pe_callB (call_isP (p := p) (List.mem_singleton.mpr rfl) hC hz hf) (by rfl) T.Z_isinstance (by decide +kernel) (pa_cons (pv 0) (pa_cons (pe_glob (by rfl) T.G_BadNumber rfl) pa_nil))) (pa_cons (pe_callB (call_isP (p := p) (List.mem_singleton.mpr rfl) hC hz hf) (by rfl) T.Z_isinstance (by decide +kernel) (pa_cons (pv 0) (pa_cons (pe_glob (by rfl) T.G_Known rfl) pa_nil))) (pa_cons (pe_callB (call_isP (p := p) (List.mem_singleton.mpr rfl) hC hz hf) (by rfl) T.Z_isinstance (by decide +kernel) (pa_cons (pv 0) (pa_cons (pe_glob (by rfl) T.G_Needed rfl) pa_nil))) pa_nil)))))))
      (pss_cons (ps_set (i := 1) sc__law_word.nd rfl (by first | exact Or.inl rfl | exact Or.inr rfl) (pe_op op_cat (pv 1) (pe_lst (pa_cons (pe_callB (call_isP (p := p) (List.mem_singleton.mpr rfl) hC hz hf) (by rfl) T.Z_isinstance (by decide +kernel) (pa_cons (pv 0) (pa_cons (pe_glob (by rfl) T.G_Ring rfl) pa_nil))) (pa_cons (pe_callB (call_isP (p := p) (List.mem_singleton.mpr rfl) hC hz hf) (by rfl) T.Z_isinstance (by decide +kernel) (pa_cons (pv 0) (pa_cons (pe_glob (by rfl) T.G_Full rfl) pa_nil))) (pa_cons (pe_callB (call_isP (p := p) (List.mem_singleton.mpr rfl) hC hz hf) (by rfl) T.Z_isinstance (by decide +kernel) (pa_cons (pv 0) (pa_cons (pe_glob (by rfl) T.G_BadDay rfl) pa_nil))) (pa_cons (pe_callB (call_isP (p := p) (List.mem_singleton.mpr rfl) hC hz hf) (by rfl) T.Z_isinstance (by decide +kernel) (pa_cons (pv 0) (pa_cons (pe_glob (by rfl) T.G_Nothing rfl) pa_nil))) pa_nil)))))))
      (pss_cons (ps_expr (pe_bm PySem.F.plainAttrs_list PySem.F.slot_list_append PySem.F.type_list_append mt_append (pv 1) (pa_cons (pe_callB (call_isP (p := p) (List.mem_singleton.mpr rfl) hC hz hf) (by rfl) T.Z_isinstance (by decide +kernel) (pa_cons (pv 0) (pa_cons (pe_glob (by rfl) T.G_BadText rfl) pa_nil))) pa_nil)))
      (pss_cons (ps_set (i := 2) sc__law_word.nd rfl (by first | exact Or.inl rfl | exact Or.inr rfl) (pe_lst (pa_cons pe_str (pa_cons pe_str (pa_cons pe_str (pa_cons pe_str (pa_cons pe_str (pa_cons pe_str (pa_cons pe_str (pa_cons pe_str (pa_cons pe_str pa_nil)))))))))))
      (pss_cons (ps_if (PW.pt (pw_or (pt_cmpR op_ne (pe_callB (cr_sumH hot) (by rfl) T.Z_sum (by decide +kernel) (pa_cons (pe_lcH (own := [("flag", 3)]) hot sc__law_word.nd (pv 1) (blkOk_by (own := [("flag", 3)]) (N := ["e", "flags", "words", "flag"]) (sc := defScope s__law_word) (by decide +kernel)) (fun _ _ _ _ _ => (pg_name (i := 3) sc__law_word.nd rfl (by first | exact Or.inl rfl | exact Or.inr rfl))) (fun _ _ _ _ _ => (pe_callTy call_int1 (by rfl) T.Z_int (by decide +kernel) (pa_cons (pv 3) pa_nil)))) pa_nil)) pe_int (nomark _)) (pw_or1 (pt_not (pt_val (pe_callB (call_isP (p := p) (List.mem_singleton.mpr rfl) hC hz hf) (by rfl) T.Z_isinstance (by decide +kernel) (pa_cons (pv 0) (pa_cons (pe_bltn (v := .ty "ValueError") (by rfl) T.Z_ValueError (by decide +kernel) rfl) pa_nil)))))))) (pss_one (ps_ret (pe_tup (pa_cons pe_str (pa_cons pe_str pa_nil))))) pss_nil)
      (pss_one (ps_ret (pe_tup (pa_cons pe_str (pa_cons (pe_ix ix_list (pe_op op_cat (pv 2) (pe_lst (pa_cons pe_str (pa_cons pe_str (pa_cons pe_str (pa_cons pe_str pa_nil)))))) (pe_bm PySem.F.plainAttrs_list PySem.F.slot_list_index PySem.F.type_list_index (mt_indexD (huH hr)) (pv 1) (pa_cons pe_bl pa_nil)) (fun _ _ => rfl)) pa_nil))))))))))), ?_⟩
    walk_at "0"
    walk_at "g"
    refine w_isP (hk "BadUser" (by decide)) hd ?_
    walk_at "g"
    refine w_isP (hk "BadDeal" (by decide)) hd ?_
    walk_at "g"
    refine w_isP (hk "BadCondition" (by decide)) hd ?_
    walk_at "g"
    refine w_isP (hk "BadRules" (by decide)) hd ?_
    walk_at "g"
    refine w_newL (by simp) fun L1 H1 s1 nL1 hL1 => ?_
    have hd1 := xd_s hd s1
    walk_at "g"
    refine w_isP (hk "BadName" (by decide)) hd1 ?_
    walk_at "g"
    refine w_isP (hk "BadNumber" (by decide)) hd1 ?_
    walk_at "g"
    refine w_isP (hk "Known" (by decide)) hd1 ?_
    walk_at "g"
    refine w_isP (hk "Needed" (by decide)) hd1 ?_
    walk_at "g"
    refine w_newL (by simp) fun L2 H2 s2 nL2 hL2 => ?_
    refine w_catN (s2 _ _ hL1) hL2 (by simp) fun L3 H3 s3 nL3 hL3 => ?_
    have s03 := (s1.trans s2).trans s3
    have hd3 := xd_s hd s03
    walk_at "g"
    refine w_isP (hk "Ring" (by decide)) hd3 ?_
    walk_at "g"
    refine w_isP (hk "Full" (by decide)) hd3 ?_
    walk_at "g"
    refine w_isP (hk "BadDay" (by decide)) hd3 ?_
    walk_at "g"
    refine w_isP (hk "Nothing" (by decide)) hd3 ?_
    walk_at "g"
    refine w_newL (by simp) fun L4 H4 s4 nL4 hL4 => ?_
    refine w_catN (s4 _ _ hL3) hL4 (by simp) fun L5 H5 s5 nL5 hL5 => ?_
    have s05 := (s03.trans s4).trans s5
    have hd5 := xd_s hd s05
    have nL5' := s03.free (s4.free nL5)
    walk_at "g"
    refine ⟨tyL hL5, ?_⟩
    walk_at "g"
    refine w_isP (hk "BadText" (by decide)) hd5 ?_
    walk_at "g"
    refine w_appN s05 nL5' hL5 (by simp) fun H6 s06 hL6 _ => ?_
    have hL6 : H6 L5 = some (.lst ((flagsL c).map V.bl)) := hL6
    have hd6 := xd_s hd s06
    walk_at "g"
    refine w_newL (by simp) fun L7 H7 s7 nL7 hL7 => ?_
    walk_at "g"
    refine w_lcH ?_
    walk_at "g"
    refine ⟨L5, (flagsL c).map V.bl, ((flagsL c).map fun b => if b then (1 : Int) else 0).map V.int, rfl, s7 _ _ hL6, by simp, by simp [wnames], fun j x y Hj hx hy => ?_, fun D nD => ?_⟩
    · rw [List.getElem?_map] at hx
      obtain ⟨b, hb, rfl⟩ := Option.map_eq_some_iff.mp hx
      rw [List.getElem?_map, List.getElem?_map, hb] at hy
      cases hy
      walk_at "g"
      refine ⟨rfl, ?_⟩
      walk_at "g"
      exact ⟨rfl, rfl⟩
    have s8 : Same H7 (upd H7 D (.lst (((flagsL c).map fun b => if b then (1 : Int) else 0).map V.int))) := Same.new nD
    have hD8 : (upd H7 D (.lst (((flagsL c).map fun b => if b then (1 : Int) else 0).map V.int))) D = some (.lst (((flagsL c).map fun b => if b then (1 : Int) else 0).map V.int)) := upd_same
    generalize upd H7 D (.lst (((flagsL c).map fun b => if b then (1 : Int) else 0).map V.int)) = H8 at *
    walk_at "g"
    refine w_sum (lstOf hD8) ?_
    rw [flags_sum c hc]
    walk_at "g"
    have s08 := (s06.trans s7).trans s8
    refine w_isPT (T.W.val c hc) (xd_s hd s08) ?_
    walk_at "g"
    refine w_newL (by simp) fun L9 H9 s9 nL9 hL9 => ?_
    refine w_catN (s9 _ _ (s8 _ _ hL7)) hL9 (by simp) fun La Ha sa nLa hLa => ?_
    have hLa : Ha La = some (.lst (wnames.map V.str)) := hLa
    have s0a := (s08.trans s9).trans sa
    walk_at "g"
    have hFa := sa _ _ (s9 _ _ (s8 _ _ (s7 _ _ hL6)))
    refine ⟨tyL hFa, ?_⟩
    walk_at "g"
    obtain ⟨j, hj1, hj2, hj3⟩ := flags_ix c hc
    have hdf : Dp K Ha (.ref L5) (.list ((flagsL c).map PyData.bool)) := .lst (lstOf hFa) (dpAll_bools _)
    refine ⟨L5, .bl true, .bool true, _, j.val, .bool true, rfl, rfl, hdf, .bl true, shaped_bools _ (by simp [wnames]), rfl, ?_, rfl, fun m z hm hz => ?_, ?_⟩
    · rw [List.getElem?_map, hj2]
      rfl
    · have hm13 : m < 13 := by omega
      rw [List.getElem?_map, hj3 ⟨m, hm13⟩ hm] at hz
      cases hz
      rfl
    refine w_ixL (lstOf hLa) (at_of (j := j.val) rfl (by rw [List.getElem?_map, hj1]; rfl)) ?_
    walk_at "g"
    refine w_newT (by simp) fun t Ht st nt ht => ?_
    exact q t Ht (s0a.trans st) (s0a.free nt) ht
theorem told_ok {X : Cx} {k : Nat} {qq : Str} (T : Tx X.K X.mg) : GivesN X (k + 1) ["deed", "e"] "_law_told" (defScope s__law_told) (He.ga X.K "_law_told") (defBody s__law_told) "deed" qq (toldT X.K) := by
  intro cdg f c2 s H Q tl hr act hc h
  obtain ⟨fd, F, bE, kp⟩ := word_ok (P := X.prog) (w := X.w) (base := X.base) T
  have hr1 := hr.mono (j := 1) (by omega)
  refine ⟨_, pss_one (ps_tryN (n := "e") (i := 1) (Wout := fun cls d _ H => E0 cls d H) (tb := fun W D σ H => ∃ Ech : XK, (∀ cls d (σ2 : L2.St) H2, σ2.length = 2 → Ech cls d H2 → W cls d σ2 H2) ∧ σ[0]? = some (some (.ref f)) ∧ H c2 = some (LamX.CodeO c2 qq) ∧ tl Ech H D.rt) rfl rfl sc__law_told.nd rfl rfl (L2N.takes_of rfl rfl rfl rfl) (fun W pn xe tk => ?_)
    (HdsNm.cons (ts := fun a cls d => tRet (tOp (rCatT X.K) (tWord X.K a cls d) (tTup (tCons (tXf a cls d (He.ga X.K "Needed") "by" (tVar 1)) tNil)))) ⟨by rfl, by decide, .inl T.G_Needed⟩ (fun a oe cls d pn hz hf => pss_one (ps_ret (pe_op op_catT (pe_word F bE kp T.G__law_word hr1 hz hf (pv 1)) (pe_tup (pa_cons (pe_xf T.W.xf T.W.noby hz.zc hf (pv 1)) pa_nil)))))
    (HdsNm.cons (ts := fun a cls d => tRet (tWord X.K a cls d)) ⟨by rfl, by decide, .inl T.G_GateError⟩ (fun a oe cls d pn hz hf => pss_one (ps_ret (pe_word F bE kp T.G__law_word hr1 hz hf (pv 1)))) HdsNm.nil))), ?_⟩
  · refine ⟨fun pins s2 σ H2 D I h2 => ?_⟩
    obtain ⟨Ech, hW, h1, h2, h3⟩ := h2
    exact (pss_one (ps_ret (act W pn xe Ech _ _ tk hW))).run pins s2 σ H2 D I ⟨h1, h2, h3⟩
  refine ⟨toldE X.K Q, fun cls d σ2 H2 hl hE => ?_, rfl, hc, h⟩
  have hset : ∀ a : Addr, (σ2.set 1 (some (V.ref a)))[1]? = some (some (V.ref a)) := fun a => by
    rw [List.getElem?_set_self (by omega)]
  obtain ⟨c, hcw, rfl, hE⟩ := hE
  refine ⟨_, T.W.need c hcw, fun hb a na => ?_, fun hb => ⟨_, T.W.gate c hcw, fun _ a na => ?_, fun z => by cases z⟩⟩
  · rcases hE with ⟨n, _⟩ | ⟨rfl, dx, v, rfl, hx, q⟩
    · exact absurd (of_decide_eq_true hb) n
    · refine ⟨hset a, _, hcw, rfl, fun dy e => ⟨_, by cases e; exact hx⟩, fun t Ht st nt ht => ?_⟩
      refine ⟨.ref a, hset a, rfl, rfl, dx, _, v, rfl, st _ _ hx, rfl, ?_⟩
      refine ⟨sz (by simp), fun u nu => ?_⟩
      have su : Same Ht (upd Ht u (.tup [v])) := Same.new nu
      refine w_catT (tupOf (su _ _ ht)) (tupOf upd_same) (by simp) fun z nz => ?_
      exact q z _ ((st.trans su).trans (Same.new nz)) (st.free (su.free nz)) upd_same
  · rcases hE with ⟨n, rfl, q⟩ | ⟨rfl, _⟩
    · exact ⟨hset a, c, hcw, rfl, (fun dy e => nomatch e), q⟩
    · simp at hb
theorem pe_told {X : Cx} {k : Nat} {x : Str} {params : Arguments} {body : Expr} {scope : Scope} {t : XK → TE} {p lpos pos : Pos} (T : Tx X.K X.mg) (B : TLs X.base X.mg X.K tfS) (hx : x ∈ tfS) (hq : X.env.qual ++ "<lambda>" = lamQ x) (hcode : X.env.code = .ref (He.cT X.K (x, none)).1) (hr : Room (k + 2) X.A) (L : LamX.LamS X.env.scope scope) (hdef : defaultsOf params X.env = ([], []))
    (hbind : ∀ (q : Str) (cl : List (Str × Addr)) (pm cv ctv : Value), bindArgs (PySem.W.kla_fn "<lambda>" q params body scope cl pm cv ctv) ⟨[], []⟩ = pure [])
    (hbody : ∀ (A : Around) (outer : List Env) (s : Shared) (H : Hp) (E : XK) (f c2 : Addr), Room k (A.deeper (LamX.lamEnv X scope s.heap.objs.size f c2)) → PE (lamCxN X A outer s H E scope f c2) body (t E)) (hg : Gl X "_law_told" := by rfl) :
    PE X (.Call (.Name "_law_told" p) [.Lambda params body scope lpos] [] pos) (LamX.tLam (tabL X.K tfS) (toldT X.K) t) := by
  obtain ⟨fd, F⟩ := T.F__law_told
  exact pe_lamN T.G__law_told F (fun _ _ _ _ _ _ us hl => match us, hl with | [_], _ => rfl) sc__law_told rfl (.inl rfl) (told_ok T) (B.tb x hx) hcode (List.mem_map.mpr ⟨x, hx, by rw [hq]⟩)
    (fun p hp e => by
      obtain ⟨y, hy, rfl⟩ := List.mem_map.mp hp
      rw [hq, B.ap x hx y hy e]) hr L hdef hbind hbody hg

theorem ok_is_name (T : Tx K mg) : Ok P w K mg base 1 "is_name" ["thing"] (spIsName K) := by
  refine Ok.mk' T.G_is_name T.F_is_name (fun _ _ _ _ _ _ us hl => match us, hl with | [_], _ => rfl) sc_is_name (fun vs H Q E h => ?_) (fun cdv A outer s H vs Q E hr h => ?_)
  · obtain ⟨v, d, rfl, hd, hz, q⟩ := h
    rfl
  · obtain ⟨v, d, rfl, hd, hz, q⟩ := h
    refine ⟨(tRet (tAndV (tCB (rIsi K) (tCons (tVar 0) (tCons (tC (.ty "str")) tNil))) (tAndV (tChain oLe oLe (tC (.int 1)) (tCB (cLen K) (tCons (tVar 0) tNil)) (tC (.int 8))) (tCB (rAll K) (tCons (tLc (iStr (tVar 0)) (gName 1) tYes (tOp rInSg (tVar 1) (tC (.str "abcdefghijklmnopqrstuvwxyz"))) [1]) tNil))))), (pss_one (ps_ret (pe_and (pe_callB call_isi (by rfl) T.Z_isinstance (by decide +kernel) (pa_cons (pv 0) (pa_cons (pe_bltn (v := .ty "str") (by rfl) T.Z_str (by decide +kernel) rfl) pa_nil))) (pe_and (pe_chain op_le op_le pe_int (pe_callB call_len (by rfl) T.Z_len (by decide +kernel) (pa_cons (pv 0) pa_nil)) pe_int) (pe_one (pe_callB (cr_all rfl) (by rfl) T.Z_all (by decide +kernel) (pa_cons (pe_lc (own := [("sign", 1)]) rfl sc_is_name.nd (pi_str (pv 0)) (blkOk_by (own := [("sign", 1)]) (N := ["thing", "sign"]) (sc := defScope s_is_name) (by decide +kernel)) (fun _ _ _ _ _ => (pg_name (i := 1) sc_is_name.nd rfl (by first | exact Or.inl rfl | exact Or.inr rfl))) (fun _ _ _ _ _ => pts_nil) (fun _ _ _ _ _ => (pe_cmpR op_in_sign (pv 1) (pe_gs T.S_LETTERS) (by rfl)))) pa_nil))))))), ?_⟩
    walk_at "0"
    walk_at "g"
    refine isi_str hd ?_
    walk_at "g"
    cases hS : isStrD d with
    | false =>
      walk_at "g"
      rw [← isName_no hS]
      exact q _ (Same.refl _)
    | true =>
      obtain ⟨z, rfl⟩ := is_str hS
      cases dp_str hd
      walk_at "g"
      refine w_lenS hz ?_
      walk_at "g"
      have hcs : z.cps.size = z.length := rfl
      refine if_b (fun h1 => ?_) (fun h1 => ?_)
      · have h1 := of_decide_eq_true h1
        walk_at "g"
        refine if_b (fun h8 => ?_) (fun h8 => ?_)
        · have h8 := of_decide_eq_true h8
          walk_at "g"
          refine w_iStr (w_var rfl ⟨z, rfl, ?_⟩)
          refine lc_pure (walk_str (z := z)) (by omega) (z.cps.toList.map fun c => [V.bl (decide (c ∈ lettersL))]) (by rw [List.length_map, Array.length_toList]) (fun _ _ => trivial) ?_ ?_
          · rintro D i acc x H' H'' hD hi hacc hH' iv ⟨rfl, c, hc, rfl⟩
            walk_at "g"
            refine ⟨rfl, ?_⟩
            walk_at "g"
            refine w_inSg ?_
            refine lcp_nx hD (by omega) hacc hH' iv (Same.refl _) ?_
            rw [List.getElem?_map, Array.getElem?_toList, hc]
            rfl
          · intro D H2 hD s2 hH2
            rw [flat_one (fun c => V.bl (decide (c ∈ lettersL)))] at hH2
            have hH2' : H2 D = some (.lst ((z.cps.toList.map fun c => decide (c ∈ lettersL)).map V.bl)) := by
              rw [hH2, List.map_map]
              rfl
            walk_at "g"
            refine w_all (lstOf hH2') ?_
            have e : (z.cps.toList.map fun c => decide (c ∈ lettersL)).all id = isName (.str z) := by
              have a1 : 1 ≤ z.length := by omega
              have a2 : z.length ≤ 8 := by omega
              simp only [isName, a1, a2, decide_true, Bool.true_and, List.all_map]
              rfl
            rw [e]
            exact q _ s2
        · have h8 := of_decide_eq_false h8
          walk_at "g"
          have e : isName (.str z) = false := by
            have a2 : ¬ z.length ≤ 8 := by omega
            simp [isName, a2]
          rw [← e]
          exact q _ (Same.refl _)
      · have h1 := of_decide_eq_false h1
        walk_at "g"
        have e : isName (.str z) = false := by
          have a2 : ¬ 1 ≤ z.length := by omega
          simp [isName, a2]
        rw [← e]
        exact q _ (Same.refl _)
theorem ok_Board_need_switch (T : Tx K mg) : OkM P w K mg base 2 "Board" "need_switch" ["self", "name"] (spBrdNeed K) := by
  refine OkM.mk' T.M_Board_need_switch T.F_Board_need_switch (fun _ _ _ _ _ _ us hl => match us, hl with | [_, _], _ => rfl) sc_Board_need_switch (fun vs H Q E h => ?_) (fun cdv A outer s H vs Q E hr h => ?_)
  · obtain ⟨b, L, N, t, past, v, d, rfl, hA, hv, hfs, q1, q2⟩ := h
    rfl
  · obtain ⟨b, L, N, t, past, v, d, rfl, hA, hv, hfs, q1, q2⟩ := h
    refine ⟨(tIfS (tOr (tNot (tB (tCall (spIsName K) [] E (tCons (tVar 1) tNil)))) (tB (tDNotIn (tVar 1) (tFld K (tVar 0) "table")))) (tRz K E "BadName") tNext), (pss_one (ps_if (PW.pt (pw_or (pt_not (pt_val (pe_f (ok_is_name T) hr (pnx (L2N.takes_of rfl rfl rfl rfl)) (pa_cons (pv 1) pa_nil)))) (pw_or1 (pt_cmp (pc_dnotin (hu1 hr) (pv 1) (pe_fld (pv 0) rfl)))))) (pss_one (ps_rz T.X_BadName (L2N.takes_of rfl rfl rfl rfl))) pss_nil)), ?_⟩
    walk_at "0"
    walk_at "g"
    refine ⟨v, d, rfl, hv, hfs, fun H1 s1 => ?_⟩
    walk_at "g"
    cases hn : isName d with
    | false =>
      walk_at "g"
      exact q2 (isSwT_no hA.ok hn) _ s1
    | true =>
      obtain ⟨z, rfl⟩ := isName_str hn
      cases dp_str hv
      obtain ⟨dx, d', ds, hb, hd, hL, hp⟩ := (hA.s s1).ex
      obtain ⟨kvs, hk, hr2⟩ := hd.ex
      walk_at "g"
      refine w_dnotin (w_var rfl (w_tfld (w_var rfl ⟨b, _, dx, _, .ref d', rfl, hb, T.C_Board, T.N_Board_table, rfl, ?_⟩)))
      refine a_dnotinS (.inl hk) ?_
      rw [hr2.isIn]
      have e : isSwT t (.str z) = decide (z ∈ namesT t) := rfl
      rw [← e]
      walk_at "g"
      cases hs : isSwT t (.str z) with
      | true =>
        walk_at "g"
        exact q1 hs _ s1
      | false =>
        walk_at "g"
        exact q2 hs _ s1
theorem ok_Board_becomes (T : Tx K mg) : OkM P w K mg base 1 "Board" "becomes" ["self", "rows"] (spBrdBecomes K) := by
  refine OkM.mk' T.M_Board_becomes T.F_Board_becomes (fun _ _ _ _ _ _ us hl => match us, hl with | [_, _], _ => rfl) sc_Board_becomes (fun vs H Q E h => ?_) (fun cdv A outer s H vs Q E hr h => ?_)
  · obtain ⟨b, L, N, t, past, p, t', rfl, hA, hp0, ok', hl, q⟩ := h
    rfl
  · obtain ⟨b, L, N, t, past, p, t', rfl, hA, hp0, ok', hl, q⟩ := h
    refine ⟨(tSeq (tDrop (tBM K "list" rAppend (tFld K (tVar 0) "past") (tCons (tFld K (tVar 0) "table") tNil)))
      (sFld K (tVar 0) (tVar 1) "table")), (pss_cons (ps_expr (pe_bm PySem.F.plainAttrs_list PySem.F.slot_list_append PySem.F.type_list_append mt_append (pe_fld (pv 0) rfl) (pa_cons (pe_fld (pv 0) rfl) pa_nil)))
      (pss_one (ps_fld (pv 0) (pv 1) rfl))), ?_⟩
    walk_at "0"
    obtain ⟨dx, d, ds, hb, hd, hL, hp⟩ := hA.ex
    have hbL := hA.ne
    walk_at "p"
    refine w_bm (w_tfld (w_var rfl ⟨b, _, dx, _, .ref L, rfl, hb, T.C_Board, T.N_Board_past, rfl, tyL hL, ?_⟩))
    walk_at "g"
    refine w_tfld (w_var rfl ⟨b, _, dx, _, .ref d, rfl, hb, T.C_Board, T.N_Board_table, rfl, ?_⟩)
    walk_at "g"
    refine w_app hL (by rw [List.length_map, hp.len]; omega) ?_
    walk_at "p"
    refine w_sfld (w_var rfl (w_var rfl ⟨b, _, dx, _, rfl, by rw [upd_ne hbL]; exact hb, T.C_Board, T.N_Board_table, by simp, ?_⟩))
    have k2 : Bd b L H (upd (upd H L (.lst (ds.map V.ref ++ [.ref d]))) b (.ins (He.ga K "Board") dx (putF "table" (.ref p) [("table", .ref d), ("past", .ref L)]))) := ((Bd.of (Same.refl _)).putL).putb
    have nt : NtA (fun x => x = b ∨ x = L) H := fun x o hx ho => by
      rcases hx with e | e
      · rw [e, hb] at ho
        cases ho
        exact trivial
      · rw [e, hL] at ho
        cases ho
        exact trivial
    have kt := kpb_tups (K := K) k2.kpb nt
    have kd : ∀ e kvs, ¬ N e → H e = some (.dK kvs) → (upd (upd H L (.lst (ds.map V.ref ++ [.ref d]))) b (.ins (He.ga K "Board") dx (putF "table" (.ref p) [("table", .ref d), ("past", .ref L)]))) e = some (.dK kvs) := fun e kvs _ z => by
      rw [upd_ne (ne_of z hb (by intro w; cases w)), upd_ne (ne_of z hL (by intro w; cases w))]
      exact z
    exact q _ k2 ⟨ok', dx, p, ds ++ [d], upd_same, hp0.keep ok' (fun kvs z => kd p kvs hp0.nn z) kt, by rw [upd_ne hbL.symm, upd_same, List.map_append]; rfl, (hp.keep kd kt).snoc (hd.keep hA.ok (fun kvs z => kd d kvs hd.nn z) kt) hA.ok⟩
theorem ok_Board_gets (T : Tx K mg) : OkM P w K mg base 2 "Board" "gets" ["self", "name", "row"] (spBrdGets K) := by
  refine OkM.mk' T.M_Board_gets T.F_Board_gets (fun _ _ _ _ _ _ us hl => match us, hl with | [_, _, _], _ => rfl) sc_Board_gets (fun vs H Q E h => ?_) (fun cdv A outer s H vs Q E hr h => ?_)
  · obtain ⟨b, L, N, t, past, z, v, r, rfl, hA, hv, ok', hN, hl, q⟩ := h
    rfl
  · obtain ⟨b, L, N, t, past, z, v, r, rfl, hA, hv, ok', hN, hl, q⟩ := h
    refine ⟨(tSeq (tAsg (tCB rDictD (tCons (tFld K (tVar 0) "table") tNil)) (gName 3))
      (tSeq (sDPut (tVar 3) (tVar 1) (tVar 2))
      (tDrop (tMeth (He.ga K "Board") "becomes" (spBrdBecomes K) [] E (tVar 0) (tCons (tVar 3) tNil))))), (pss_cons (ps_set (i := 3) sc_Board_gets.nd rfl (by first | exact Or.inl rfl | exact Or.inr rfl) (pe_callTy call_dictD (by rfl) T.Z_dict (by decide +kernel) (pa_cons (pe_fld (pv 0) rfl) pa_nil)))
      (pss_cons (ps_dput (hu1 hr) (pv 3) (pv 1) (pv 2) (by rfl))
      (pss_one (ps_expr (pe_m (ok_Board_becomes T) T.C_Board hr (pnx (L2N.takes_of rfl rfl rfl rfl)) (pv 0) (pa_cons (pv 3) pa_nil)))))), ?_⟩
    walk_at "0"
    obtain ⟨dx, d, ds, hb, hd, hL, hp⟩ := hA.ex
    obtain ⟨kvs, hk, hr2⟩ := hd.ex
    walk_at "p"
    walk_at "g"
    refine w_tfld (w_var rfl ⟨b, _, dx, _, .ref d, rfl, hb, T.C_Board, T.N_Board_table, rfl, ?_⟩)
    walk_at "g"
    refine w_dictD (.inl hk) fun p H1 s1 np hp1 => ?_
    walk_at "p"
    refine w_dput (w_var rfl (w_var rfl (w_var rfl (a_dputS hp1 (by rw [hr2.len]; have := hA.ok.len; omega) ?_))))
    have s2 : Same H (upd H1 p (.dK (putK kvs (.inr z) v))) := same_put s1 np
    have hD : DicAt K N (upd H1 p (.dK (putK kvs (.inr z) v))) p (putT t z r) := by
      refine ⟨fun hn => ?_, _, upd_same, (hr2.s s2).put (dp_s s2 hv)⟩
      obtain ⟨o, ho⟩ := hN p hn
      rw [np] at ho
      cases ho
    walk_at "p"
    refine w_meth (w_var rfl ⟨b, dx, _, rfl, s2 _ _ hb, rfl, ?_⟩)
    walk_at "g"
    exact ⟨b, L, N, t, past, p, putT t z r, rfl, hA.s s2, hD, ok', hl, fun H3 k3 hB => q H3 ((Bd.of s2).trans k3) hB⟩
theorem ok_Board_dark (T : Tx K mg) : OkMD P w K mg base 3 "Board" "dark" ["self", "name", "is_dark"] (spBrdDark K) 2 "is_dark" (.bl true) := by
  refine OkMD.mk' T.M_Board_dark T.F_Board_dark rfl (fun _ _ _ _ _ _ _ us its h1 h2 => match us, its, h1, h2 with | [_, _], [_], _, _ => ⟨_, rfl, rfl⟩) (fun _ _ _ _ _ _ _ us its h1 h2 => match us, its, h1, h2 with | [_, _, _], [_], _, _ => ⟨_, rfl, rfl⟩) (fun _ _ _ _ _ _ _ us its ws h1 h2 h3 => match us, its, ws, h1, h2, h3 with | [_, _], [_], [_], _, _, _ => ⟨_, rfl, rfl⟩) sc_Board_dark (fun vs H Q E h => ?_) (fun cdv A outer s H vs Q E hr h => ?_)
  · obtain ⟨b, L, N, t, past, vn, dn, vx, dd, rfl, hA, hvn, hfs, hvx, hN, hl, q⟩ := h
    rfl
  · obtain ⟨b, L, N, t, past, vn, dn, vx, dd, rfl, hA, hvn, hfs, hvx, hN, hl, q⟩ := h
    refine ⟨(tSeq (tDrop (tMeth (He.ga K "Board") "need_switch" (spBrdNeed K) [] E (tVar 0) (tCons (tVar 1) tNil)))
      (tSeq (tIfS (tNot (tB (tCB (rIsi K) (tCons (tVar 2) (tCons (tC (.ty "bool")) tNil))))) (tRz K E "BadNumber") tNext)
      (tSeq (tAsg (tDGet (tFld K (tVar 0) "table") (tVar 1)) (gTup K 4 (gCons (gName 3) (gCons (gName 4) (gCons (gName 5) (gCons (gName 6) gNil))))))
      (tDrop (tMeth (He.ga K "Board") "gets" (spBrdGets K) [] E (tVar 0) (tCons (tVar 1) (tCons (tTup (tCons (tVar 3) (tCons (tVar 4) (tCons (tVar 5) (tCons (tVar 2) tNil))))) tNil))))))), (pss_cons (ps_expr (pe_m (ok_Board_need_switch T) T.C_Board hr (pnx (L2N.takes_of rfl rfl rfl rfl)) (pv 0) (pa_cons (pv 1) pa_nil)))
      (pss_cons (ps_if (pt_not (pt_val (pe_callB call_isi (by rfl) T.Z_isinstance (by decide +kernel) (pa_cons (pv 2) (pa_cons (pe_bltn (v := .ty "bool") (by rfl) T.Z_bool (by decide +kernel) rfl) pa_nil))))) (pss_one (ps_rz T.X_BadNumber (L2N.takes_of rfl rfl rfl rfl))) pss_nil)
      (pss_cons (ps_asg (pe_dget (hu1 hr) (pe_fld (pv 0) rfl) (pv 1) (fun _ _ => rfl)) (pg_tup (by rfl) (pgs_cons (pg_name (i := 3) sc_Board_dark.nd rfl (by first | exact Or.inl rfl | exact Or.inr rfl)) (pgs_cons (pg_name (i := 4) sc_Board_dark.nd rfl (by first | exact Or.inl rfl | exact Or.inr rfl)) (pgs_cons (pg_name (i := 5) sc_Board_dark.nd rfl (by first | exact Or.inl rfl | exact Or.inr rfl)) (pgs_cons (pg_name (i := 6) sc_Board_dark.nd rfl (by first | exact Or.inl rfl | exact Or.inr rfl)) pgs_nil))))))
      (pss_one (ps_expr (pe_m (ok_Board_gets T) T.C_Board hr (pnx (L2N.takes_of rfl rfl rfl rfl)) (pv 0) (pa_cons (pv 1) (pa_cons (pe_tup (pa_cons (pv 3) (pa_cons (pv 4) (pa_cons (pv 5) (pa_cons (pv 2) pa_nil))))) pa_nil)))))))), ?_⟩
    walk_at "0"
    obtain ⟨dx, d, ds, hb, hd, hL, hp⟩ := hA.ex
    obtain ⟨kvs, hk, hr2⟩ := hd.ex
    unfold darkR at q
    walk_at "p"
    refine w_meth (w_var rfl ⟨b, dx, _, rfl, hb, rfl, ?_⟩)
    walk_at "g"
    refine ⟨b, L, N, t, past, vn, dn, rfl, hA, hvn, hfs, fun hs H1 s1 => ?_, fun hs H1 s1 => ?_⟩
    · obtain ⟨z, r, rfl, er, ew⟩ := swRow_is hs
      rw [ew] at q
      simp only at q
      cases dp_str hvn
      obtain ⟨u, eu, hu⟩ := hr2.val er
      obtain ⟨p, ud, ur, un, rfl, hpt, h1, h2, h3⟩ := row_at hu
      walk_at "g"
      refine isi_bool (dp_s s1 hvx) ?_
      walk_at "g"
      cases hB : isBoolD dd with
      | false =>
        walk_at "g"
        have e : BQ K N b L t past H Q E (.bad "BadNumber") := by
          cases dd <;> first | exact q | cases hB
        exact e _ s1
      | true =>
        obtain ⟨x, rfl⟩ := isBool_is hB
        cases dp_blB hvx
        walk_at "p"
        refine w_dget (w_tfld (w_var rfl ⟨b, _, dx, _, .ref d, rfl, s1 _ _ hb, T.C_Board, T.N_Board_table, rfl, w_var rfl ?_⟩))
        refine a_dgetS (.inl (s1 _ _ hk)) eu ?_
        refine w_gtup (RG.Same.tup s1 hpt) rfl ?_
        walk_at "p"
        refine w_meth (w_var rfl ⟨b, dx, _, rfl, s1 _ _ hb, rfl, ?_⟩)
        walk_at "g"
        refine w_newT (by simp) fun p2 H4 s4 np2 hp2 => ?_
        walk_at "g"
        have s04 := s1.trans s4
        have hro := hA.ok.row z r er
        refine ⟨b, L, N, t, past, z, .ref p2, { r with dim := x }, rfl, hA.s s04, row_of hp2 (dp_s s04 h1) (dp_s s04 h2) (dp_s s04 h3), ?_, fun x hx => ?_, hl, fun H5 k5 hB => q H5 ((Bd.of s04).trans k5) hB⟩
        · exact hA.ok.same er ⟨hro.deal, hro.ok, hro.rules, hro.im, hro.nd, hro.srt, hro.mem⟩ rfl
        · obtain ⟨o, ho⟩ := hN x hx
          exact ⟨o, s04 _ _ ho⟩
    · rw [swRow_no hs] at q
      exact q _ s1
theorem ok_need_name (T : Tx K mg) : Ok P w K mg base 2 "need_name" ["thing"] (spNeedName K) := by
  refine Ok.mk' T.G_need_name T.F_need_name (fun _ _ _ _ _ _ us hl => match us, hl with | [_], _ => rfl) sc_need_name (fun vs H Q E h => ?_) (fun cdv A outer s H vs Q E hr h => ?_)
  · obtain ⟨v, d, rfl, hd, hz, q1, q2⟩ := h
    rfl
  · obtain ⟨v, d, rfl, hd, hz, q1, q2⟩ := h
    refine ⟨(tIfS (tNot (tB (tCall (spIsName K) [] E (tCons (tVar 0) tNil)))) (tRz K E "BadName") tNext), (pss_one (ps_if (pt_not (pt_val (pe_f (ok_is_name T) hr (pnx (L2N.takes_of rfl rfl rfl rfl)) (pa_cons (pv 0) pa_nil)))) (pss_one (ps_rz T.X_BadName (L2N.takes_of rfl rfl rfl rfl))) pss_nil)), ?_⟩
    walk_at "0"
    walk_at "g"
    refine ⟨v, d, rfl, hd, hz, fun H1 s1 => ?_⟩
    walk_at "g"
    cases h : isName d with
    | true =>
      walk_at "g"
      exact q1 h _ s1
    | false =>
      walk_at "g"
      exact q2 h _ s1
theorem ok_is_number (T : Tx K mg) : Ok P w K mg base 1 "is_number" ["thing", "low", "high"] (spIsNum K) := by
  refine Ok.mk' T.G_is_number T.F_is_number (fun _ _ _ _ _ _ us hl => match us, hl with | [_, _, _], _ => rfl) sc_is_number (fun vs H Q E h => ?_) (fun cdv A outer s H vs Q E hr h => ?_)
  · obtain ⟨v, d, lo, hi, rfl, hd, q⟩ := h
    rfl
  · obtain ⟨v, d, lo, hi, rfl, hd, q⟩ := h
    refine ⟨(tRet (tAndV (tCB (rIsi K) (tCons (tVar 0) (tCons (tC (.ty "int")) tNil))) (tAndV (tNotV (tCB (rIsi K) (tCons (tVar 0) (tCons (tC (.ty "bool")) tNil)))) (tChain oLe oLe (tVar 1) (tVar 0) (tVar 2))))), (pss_one (ps_ret (pe_and (pe_callB call_isi (by rfl) T.Z_isinstance (by decide +kernel) (pa_cons (pv 0) (pa_cons (pe_bltn (v := .ty "int") (by rfl) T.Z_int (by decide +kernel) rfl) pa_nil))) (pe_and (pe_not (pe_callB call_isi (by rfl) T.Z_isinstance (by decide +kernel) (pa_cons (pv 0) (pa_cons (pe_bltn (v := .ty "bool") (by rfl) T.Z_bool (by decide +kernel) rfl) pa_nil)))) (pe_one (pe_chain op_le op_le (pv 1) (pv 0) (pv 2))))))), ?_⟩
    walk_at "0"
    walk_at "g"
    refine isi_int hd ?_
    walk_at "g"
    cases d with
    | int i =>
      cases hd
      refine if_t rfl ?_
      walk_at "g"
      refine isi_bool (.int i) ?_
      walk_at "g"
      refine if_b (fun h => ?_) (fun h => ?_)
      · walk_at "g"
        have e : isNum (.int i) lo hi = decide (i ≤ hi) := by
          simp only [isNum, h, Bool.true_and]
        rw [← e]
        exact q
      · have e : isNum (.int i) lo hi = false := by
          simp only [isNum, h, Bool.false_and]
        rw [← e]
        exact q
    | bool b =>
      cases hd
      refine if_t rfl ?_
      walk_at "g"
      refine isi_bool (.bl b) ?_
      walk_at "g"
      exact q
    | _ => exact if_f rfl q
theorem ok_rest (T : Tx K mg) : Ok P w K mg base 1 "rest" ["number", "by"] (spRest) := by
  refine Ok.mk' T.G_rest T.F_rest (fun _ _ _ _ _ _ us hl => match us, hl with | [_, _], _ => rfl) sc_rest (fun vs H Q E h => ?_) (fun cdv A outer s H vs Q E hr h => ?_)
  · obtain ⟨n, m, rfl, h1, h2, q⟩ := h
    rfl
  · obtain ⟨n, m, rfl, h1, h2, q⟩ := h
    refine ⟨(tRet (tOp oSub (tVar 0) (tOp oMul (tOp oDiv (tVar 0) (tVar 1)) (tVar 1)))), (pss_one (ps_ret (pe_op op_sub (pv 0) (pe_op op_mul (pe_op op_fdivW (pv 0) (pv 1)) (pv 1))))), ?_⟩
    walk_at "0"
    walk_at "g"
    refine w_I (divW h1 (by omega)) ?_
    walk_at "g"
    refine w_I (.inr ⟨by omega, by omega⟩) ?_
    walk_at "g"
    rw [rest_eq]
    exact q
theorem ok_need_deal (T : Tx K mg) : Ok P w K mg base 2 "need_deal" ["thing"] (spNeedDeal K) := by
  refine Ok.mk' T.G_need_deal T.F_need_deal (fun _ _ _ _ _ _ us hl => match us, hl with | [_], _ => rfl) sc_need_deal (fun vs H Q E h => ?_) (fun cdv A outer s H vs Q E hr h => ?_)
  · obtain ⟨v, d, rfl, hd, q1, q2⟩ := h
    rfl
  · obtain ⟨v, d, rfl, hd, q1, q2⟩ := h
    refine ⟨(tSeq (tIfS (tOr (tNot (tB (tCB (rIsi K) (tCons (tVar 0) (tCons (tC (.ty "tuple")) tNil))))) (tTest (tOp rNe (tCB (cLen K) (tCons (tVar 0) tNil)) (tC (.int 2))))) (tRz K E "BadDeal") tNext)
      (tSeq (tIfS (tOr (tNot (tB (tCall (spIsNum K) [] E (tCons (tOp (rIxT K) (tVar 0) (tC (.int 0))) (tCons (tC (.int 0)) (tCons (tOp oSub (tC (.int 100)) (tC (.int 1))) tNil)))))) (tNot (tB (tCall (spIsNum K) [] E (tCons (tOp (rIxT K) (tVar 0) (tC (.int 1))) (tCons (tC (.int 0)) (tCons (tOp oSub (tC (.int 100)) (tC (.int 1))) tNil))))))) (tRz K E "BadDeal") tNext)
      (tIfS (tOr (tTest (tOp rEq (tCall (spRest) [] E (tCons (tOp (rIxT K) (tVar 0) (tC (.int 0))) (tCons (tC (.int 2)) tNil))) (tC (.int 0)))) (tTest (tOp rEq (tCall (spRest) [] E (tCons (tOp (rIxT K) (tVar 0) (tC (.int 0))) (tCons (tC (.int 5)) tNil))) (tC (.int 0))))) (tRz K E "BadDeal") tNext))), (pss_cons (ps_if (PW.pt (pw_or (pt_not (pt_val (pe_callB call_isi (by rfl) T.Z_isinstance (by decide +kernel) (pa_cons (pv 0) (pa_cons (pe_bltn (v := .ty "tuple") (by rfl) T.Z_tuple (by decide +kernel) rfl) pa_nil))))) (pw_or1 (pt_cmpR op_ne (pe_callB call_len (by rfl) T.Z_len (by decide +kernel) (pa_cons (pv 0) pa_nil)) pe_int (nomark _))))) (pss_one (ps_rz T.X_BadDeal (L2N.takes_of rfl rfl rfl rfl))) pss_nil)
      (pss_cons (ps_if (PW.pt (pw_or (pt_not (pt_val (pe_f (ok_is_number T) hr (pnx (L2N.takes_of rfl rfl rfl rfl)) (pa_cons (pe_ix ix_tup (pv 0) pe_int (fun _ _ => rfl)) (pa_cons pe_int (pa_cons (pe_op op_sub (pe_gi T.I_PLACES) pe_int) pa_nil)))))) (pw_or1 (pt_not (pt_val (pe_f (ok_is_number T) hr (pnx (L2N.takes_of rfl rfl rfl rfl)) (pa_cons (pe_ix ix_tup (pv 0) pe_int (fun _ _ => rfl)) (pa_cons pe_int (pa_cons (pe_op op_sub (pe_gi T.I_PLACES) pe_int) pa_nil))))))))) (pss_one (ps_rz T.X_BadDeal (L2N.takes_of rfl rfl rfl rfl))) pss_nil)
      (pss_one (ps_if (PW.pt (pw_or (pt_cmpR op_eq (pe_f (ok_rest T) hr (pnx (L2N.takes_of rfl rfl rfl rfl)) (pa_cons (pe_ix ix_tup (pv 0) pe_int (fun _ _ => rfl)) (pa_cons pe_int pa_nil))) pe_int (nomark _)) (pw_or1 (pt_cmpR op_eq (pe_f (ok_rest T) hr (pnx (L2N.takes_of rfl rfl rfl rfl)) (pa_cons (pe_ix ix_tup (pv 0) pe_int (fun _ _ => rfl)) (pa_cons pe_int pa_nil))) pe_int (nomark _))))) (pss_one (ps_rz T.X_BadDeal (L2N.takes_of rfl rfl rfl rfl))) pss_nil)))), ?_⟩
    walk_at "0"
    walk_at "g"
    refine isi_tuple hd ?_
    walk_at "g"
    by_cases ht : isTupD d = true
    · obtain ⟨ds, rfl⟩ : ∃ ds, d = .tuple ds := by
        cases d <;> first | exact ⟨_, rfl⟩ | cases ht
      refine if_f rfl ?_
      walk_at "g"
      refine w_lenD hd ?_
      walk_at "g"
      refine if_b (fun h => ?_) (fun h => ?_)
      · walk_at "g"
        refine q2 (isDeal_len fun z => ?_)
        rw [z] at h
        simp at h
      · have hl : ds.length = 2 := by
          simp at h
          omega
        match ds, hl with
        | [a, b], _ =>
        walk_at "g"
        refine w_ixD0 hd fun u0 h0 => ?_
        walk_at "g"
        refine ⟨_, _, _, _, rfl, h0, ?_⟩
        walk_at "g"
        cases e0 : isNum a 0 (100 - 1)
        · walk_at "g"
          exact q2 (isDeal_a e0)
        · walk_at "g"
          refine w_ixD1 hd fun u1 h1 => ?_
          walk_at "g"
          refine ⟨_, _, _, _, rfl, h1, ?_⟩
          walk_at "g"
          cases e1 : isNum b 0 (100 - 1)
          · walk_at "g"
            exact q2 (isDeal_b e1)
          · walk_at "g"
            obtain ⟨i, rfl, i0, i1⟩ := isNum_int e0
            obtain ⟨j, rfl, j0, j1⟩ := isNum_int e1
            refine w_ixD0 hd fun u2 h2 => ?_
            cases dp_int h2
            walk_at "g"
            refine ⟨i, 2, rfl, by decide, by decide, ?_⟩
            walk_at "g"
            refine if_b (fun z => ?_) (fun z => ?_)
            · walk_at "g"
              refine q2 ?_
              unfold isDeal
              simp only [z, Bool.not_true, Bool.false_and, Bool.and_false]
            · walk_at "g"
              refine w_ixD0 hd fun u3 h3 => ?_
              cases dp_int h3
              walk_at "g"
              refine ⟨i, 5, rfl, by decide, by decide, ?_⟩
              walk_at "g"
              refine if_b (fun z2 => ?_) (fun z2 => ?_)
              · walk_at "g"
                refine q2 ?_
                unfold isDeal
                simp only [z2, Bool.not_true, Bool.and_false]
              · walk_at "g"
                refine q1 ?_
                have a1 : (decide (0 ≤ i) && decide (i ≤ 99)) = true := e0
                have b1 : (decide (0 ≤ j) && decide (j ≤ 99)) = true := e1
                unfold isDeal
                simp only [z, z2, a1, b1, Bool.not_false, Bool.and_true]
    · have ht : isTupD d = false := by simpa using ht
      rw [ht]
      walk_at "g"
      refine q2 ?_
      cases d <;> first | rfl | cases ht
theorem ok_is_row (T : Tx K mg) : Ok P w K mg base 2 "is_row" ["thing", "most"] (spIsRow K) := by
  refine Ok.mk' T.G_is_row T.F_is_row (fun _ _ _ _ _ _ us hl => match us, hl with | [_, _], _ => rfl) sc_is_row (fun vs H Q E h => ?_) (fun cdv A outer s H vs Q E hr h => ?_)
  · obtain ⟨v, d, m, rfl, hd, sh, q⟩ := h
    rfl
  · obtain ⟨v, d, m, rfl, hd, sh, q⟩ := h
    refine ⟨(tSeq (tIfS (tOr (tNot (tB (tCB (rIsi K) (tCons (tVar 0) (tCons (tC (.ty "tuple")) tNil))))) (tOr (tTest (tOp (rEqD K) (tVar 0) (tTup tNil))) (tNot (tB (tCB (rAll K) (tCons (tLc (iTup K (tVar 0)) (gName 2) tYes (tCall (spIsNum K) [] E0 (tCons (tVar 2) (tCons (tC (.int 0)) (tCons (tOp oSub (tVar 1) (tC (.int 1))) tNil)))) [2]) tNil)))))) (tRet (tC (.bl false))) tNext)
      (tRet (tCB (rAll K) (tCons (tLc (RZ.iZipA K (tCons (tVar 0) (tCons (tSl (rSlA K) (tVar 0) (tPart (tC (.int 1))) tNoPart) tNil))) (gTup K 2 (gCons (gName 2) (gCons (gName 3) gNil))) tYes (tOp oLt (tVar 2) (tVar 3)) [2, 3]) tNil)))), (pss_cons (ps_if (PW.pt (pw_or (pt_not (pt_val (pe_callB call_isi (by rfl) T.Z_isinstance (by decide +kernel) (pa_cons (pv 0) (pa_cons (pe_bltn (v := .ty "tuple") (by rfl) T.Z_tuple (by decide +kernel) rfl) pa_nil))))) (pw_or (pt_cmpR (op_eqD hr.units) (pv 0) (pe_tup pa_nil) (nomark _)) (pw_or1 (pt_not (pt_val (pe_callB (cr_all rfl) (by rfl) T.Z_all (by decide +kernel) (pa_cons (pe_lc (own := [("one", 2)]) rfl sc_is_row.nd (pi_tup (pv 0)) (blkOk_by (own := [("one", 2)]) (N := ["thing", "most", "one", "other"]) (sc := defScope s_is_row) (by decide +kernel)) (fun _ _ _ _ _ => (pg_name (i := 2) sc_is_row.nd rfl (by first | exact Or.inl rfl | exact Or.inr rfl))) (fun _ _ _ _ _ => pts_nil) (fun _ _ _ _ _ => (pe_f (ok_is_number T) hr pn0 (pa_cons (pv 2) (pa_cons pe_int (pa_cons (pe_op op_sub (pv 1) pe_int) pa_nil)))))) pa_nil)))))))) (pss_one (ps_ret pe_bl)) pss_nil)
      (pss_one (ps_ret (pe_callB (cr_all rfl) (by rfl) T.Z_all (by decide +kernel) (pa_cons (pe_lc (own := [("one", 2), ("other", 3)]) rfl sc_is_row.nd (RZ.pi_zipA (by rfl) T.Z_zip (pa_cons (pv 0) (pa_cons (pe_slice sl_tupA (pv 0) (po_some pe_int) po_none) pa_nil))) (blkOk_by (own := [("one", 2), ("other", 3)]) (N := ["thing", "most", "one", "other"]) (sc := defScope s_is_row) (by decide +kernel)) (fun _ _ _ _ _ => (pg_tup (by rfl) (pgs_cons (pg_name (i := 2) sc_is_row.nd rfl (by first | exact Or.inl rfl | exact Or.inr rfl)) (pgs_cons (pg_name (i := 3) sc_is_row.nd rfl (by first | exact Or.inl rfl | exact Or.inr rfl)) pgs_nil)))) (fun _ _ _ _ _ => pts_nil) (fun _ _ _ _ _ => (pe_cmpR op_lt (pv 2) (pv 3) (nomark _)))) pa_nil))))), ?_⟩
    walk_at "0"
    walk_at "g"
    refine isi_tuple hd ?_
    walk_at "g"
    by_cases ht : isTupD d = true
    · obtain ⟨ds, rfl⟩ := is_tup ht
      refine if_f rfl ?_
      walk_at "g"
      refine ⟨Nat.zero_le _, fun p np => ?_⟩
      have s1 : Same H (upd H p (.tup [])) := Same.new np
      refine w_eqD (dp_s s1 hd) (.tup (tupOf upd_same) .nil) (okD_sh sh) (by rfl) ?_
      walk_at "g"
      cases ds with
      | nil =>
        refine if_t rfl ?_
        walk_at "g"
        exact q _ s1
      | cons d0 ds =>
        refine if_f rfl ?_
        walk_at "g"
        generalize upd H p (.tup []) = H1 at *
        have hd1 := dp_s s1 hd
        obtain ⟨a, xs, rfl, hx, hxs⟩ := dp_tuple hd1
        walk_at "g"
        refine ⟨⟨xs, hx⟩, ?_⟩
        have hxl : xs.length = (d0 :: ds).length := dpAll_len hxs
        have hsm := okD_len sh
        refine lc_pure walk_tup (by omega) ((d0 :: ds).map fun y => [V.bl (isNum y 0 (m - 1))]) (by simp [hxl]) (fun H' s => tup_s s hx) ?_ ?_
        · rintro D i acc x H' H'' hD hi hacc hH' iv ⟨rfl, hxi⟩
          walk_at "g"
          refine ⟨rfl, ?_⟩
          walk_at "g"
          obtain ⟨e, he, hde⟩ := dpAll_getV hxs hxi
          refine ⟨_, _, _, _, rfl, dp_s iv.1 hde, ?_⟩
          refine lcp_nx hD (by omega) hacc hH' iv (Same.refl _) ?_
          rw [List.getElem?_map, he]
          rfl
        · intro D H2 hD s2 hH2
          rw [flat_one (fun y => V.bl (isNum y 0 (m - 1)))] at hH2
          walk_at "g"
          refine w_all (bs := (d0 :: ds).map fun y => isNum y 0 (m - 1)) (lstOf (by rw [hH2, List.map_map]; rfl)) ?_
          have eall : ((d0 :: ds).map fun y => isNum y 0 (m - 1)).all id = (d0 :: ds).all fun y => isNum y 0 (m - 1) := by
            rw [List.all_map]
            rfl
          rw [eall]
          walk_at "g"
          cases ea : (d0 :: ds).all fun y => isNum y 0 (m - 1) with
          | false =>
            refine if_t rfl ?_
            walk_at "g"
            have e : isRow (.tuple (d0 :: ds)) m = false := by
              simp only [isRow, ea, Bool.false_and]
            rw [← e]
            exact q _ (s1.trans s2)
          | true =>
            refine if_f rfl ?_
            walk_at "g"
            obtain ⟨ns, ens⟩ := all_nums ea
            have hx2 := tup_s s2 hx
            have exs : xs = ns.map V.int := by
              have h1 := dps_s s2 hxs
              rw [ens] at h1
              exact dpAll_intsV h1
            cases ns with
            | nil => cases ens
            | cons n0 ns =>
            subst exs
            walk_at "g"
            refine w_sl1 hx2 fun p2 np2 => ?_
            walk_at "g"
            have s3 : Same H2 (upd H2 p2 (.tup (ns.map V.int))) := Same.new np2
            generalize hH3 : upd H2 p2 (.tup (ns.map V.int)) = H3 at *
            have hp2 : H3 p2 = some (.tup (ns.map V.int)) := by
              rw [← hH3]
              exact upd_same
            refine ⟨a, p2, _, _, rfl, .inr ⟨tup_s s3 hx2, tupOf hp2, ?_⟩⟩
            have hln : ns.length = ds.length := by
              have := congrArg List.length ens
              simp at this
              omega
            refine lc_pure (walk_zipT (m := ns.length) (by simp)) (by simp at hsm; omega) ((upB (n0 :: ns)).map fun b => [V.bl b]) (by simp [upB_len]) (fun H' s => ⟨tup_s s (tup_s s3 hx2), tupOf (s _ _ hp2)⟩) ?_ ?_
            · rintro D' i acc x H' H'' hD' hi hacc hH' iv ⟨T', x1, x2, rfl, nT, rfl, e1, e2⟩
              walk_at "g"
              refine w_gtup (tupOf upd_same) rfl ?_
              walk_at "g"
              refine ⟨rfl, ?_⟩
              walk_at "g"
              dsimp only at e1 e2
              rw [List.getElem?_map] at e1 e2
              obtain ⟨y1, f1, rfl⟩ := Option.map_eq_some_iff.mp e1
              obtain ⟨y2, f2, rfl⟩ := Option.map_eq_some_iff.mp e2
              walk_at "g"
              refine lcp_nx hD' (by simp at hsm; omega) hacc hH' iv (Same.new nT) ?_
              rw [List.getElem?_map, upB_get f1 (by simpa using f2)]
              rfl
            · intro D' H4 hD' s4 hH4
              rw [flat_one V.bl] at hH4
              walk_at "g"
              refine w_all (lstOf hH4) ?_
              have e : isRow (.tuple (d0 :: ds)) m = (upB (n0 :: ns)).all id := by
                simp only [isRow, ea, Bool.true_and]
                rw [ens, rising_up]
              rw [← e]
              exact q _ (((s1.trans s2).trans s3).trans s4)
    · have ht := not_tup ht
      rw [ht]
      walk_at "g"
      rw [← isRow_no (m := m) ht]
      exact q _ (Same.refl _)
theorem okr_parts_of (T : Tx K mg) : ∀ n : Nat, Ok P w K mg base (3 + n) "parts_of" ["thing", "deep"] (spPartsR K n) := by
  intro n
  induction n with
  | zero =>
    refine (Ok.bot T.G_parts_of T.F_parts_of (fun _ _ _ _ _ _ us hl => match us, hl with | [_, _], _ => rfl)).imp (fun vs H Q E h => ?_)
    obtain ⟨v, d, k, rfl, hk, hd, sh, q⟩ := h
    omega
  | succ n ih =>
  refine Ok.mk' (k := 3 + n) T.G_parts_of T.F_parts_of (fun _ _ _ _ _ _ us hl => match us, hl with | [_, _], _ => rfl) sc_parts_of (fun vs H Q E h => ?_) (fun cdv A outer s H vs Q E hr h => ?_)
  · obtain ⟨v, d, k, rfl, hk, hd, sh, q⟩ := h
    rfl
  · obtain ⟨v, d, k, rfl, hk, hd, sh, q⟩ := h
    refine ⟨(tSeq (tIfS (tOr (tTest (tOp rEq (tVar 1) (tC (.int 0)))) (tOr (tNot (tB (tCB (rIsi K) (tCons (tVar 0) (tCons (tC (.ty "tuple")) tNil))))) (tOr (tTest (tOp oLt (tCB (cLen K) (tCons (tVar 0) tNil)) (tC (.int 2)))) (tNot (tB (tCB (rIsi K) (tCons (tOp (rIxT K) (tVar 0) (tC (.int 0))) (tCons (tC (.ty "str")) tNil)))))))) (tRet (tC (.int 0))) tNext)
      (tSeq (tIfS (tTest (tOp (rIn K false) (tOp (rIxT K) (tVar 0) (tC (.int 0))) (tTup (tCons (tC (.str "land")) (tCons (tC (.str "plan")) tNil))))) (tRet (tCB cInt1 (tCons (tAndV (tOp rEq (tCB (cLen K) (tCons (tVar 0) tNil)) (tC (.int 2))) (tCall (spIsRow K) [] E (tCons (tOp (rIxT K) (tVar 0) (tC (.int 1))) (tCons (tIf (tTest (tOp rEq (tOp (rIxT K) (tVar 0) (tC (.int 0))) (tC (.str "land")))) (tC (.int 6)) (tC (.int 4))) tNil)))) tNil))) tNext)
      (tSeq (tAsg (tOrV (tAndV (tOp (rIn K false) (tOp (rIxT K) (tVar 0) (tC (.int 0))) (tTup (tCons (tC (.str "and")) (tCons (tC (.str "or")) tNil)))) (tChain oLe oLe (tC (.int 3)) (tCB (cLen K) (tCons (tVar 0) tNil)) (tC (.int 6)))) (tAndV (tOp rEq (tOp (rIxT K) (tVar 0) (tC (.int 0))) (tC (.str "not"))) (tOp rEq (tCB (cLen K) (tCons (tVar 0) tNil)) (tC (.int 2))))) (gName 2))
      (tSeq (tAsg (tIf (tB (tVar 2)) (tLc (iTup K (tSl (rSlA K) (tVar 0) (tPart (tC (.int 1))) tNoPart)) (gName 3) tYes (tCall (spPartsR K n) [] E0 (tCons (tVar 3) (tCons (tOp oSub (tVar 1) (tC (.int 1))) tNil))) [3]) (tLst (tCons (tC (.int 0)) tNil))) (gName 4))
      (tRet (tIf (tTest (tOp (rIn K true) (tC (.int 0)) (tVar 4))) (tOp oAdd (tC (.int 1)) (tCB (rSum K) (tCons (tVar 4) tNil))) (tC (.int 0)))))))), (pss_cons (ps_if (PW.pt (pw_or (pt_cmpR op_eq (pv 1) pe_int (nomark _)) (pw_or (pt_not (pt_val (pe_callB call_isi (by rfl) T.Z_isinstance (by decide +kernel) (pa_cons (pv 0) (pa_cons (pe_bltn (v := .ty "tuple") (by rfl) T.Z_tuple (by decide +kernel) rfl) pa_nil))))) (pw_or (pt_cmpR op_lt (pe_callB call_len (by rfl) T.Z_len (by decide +kernel) (pa_cons (pv 0) pa_nil)) pe_int (nomark _)) (pw_or1 (pt_not (pt_val (pe_callB call_isi (by rfl) T.Z_isinstance (by decide +kernel) (pa_cons (pe_ix ix_tup (pv 0) pe_int (fun _ _ => rfl)) (pa_cons (pe_bltn (v := .ty "str") (by rfl) T.Z_str (by decide +kernel) rfl) pa_nil)))))))))) (pss_one (ps_ret pe_int)) pss_nil)
      (pss_cons (ps_if (pt_cmpR op_in_seq (pe_ix ix_tup (pv 0) pe_int (fun _ _ => rfl)) (pe_tup (pa_cons pe_str (pa_cons pe_str pa_nil))) (by rfl)) (pss_one (ps_ret (pe_callTy call_int1 (by rfl) T.Z_int (by decide +kernel) (pa_cons (pe_and (pe_cmpR op_eq (pe_callB call_len (by rfl) T.Z_len (by decide +kernel) (pa_cons (pv 0) pa_nil)) pe_int (nomark _)) (pe_one (pe_f (ok_is_row T) hr (pnx (L2N.takes_of rfl rfl rfl rfl)) (pa_cons (pe_ix ix_tup (pv 0) pe_int (fun _ _ => rfl)) (pa_cons (pe_ifExp (pt_cmpR op_eq (pe_ix ix_tup (pv 0) pe_int (fun _ _ => rfl)) pe_str (nomark _)) (pe_gi T.I_LANDS) (pe_gi T.I_PLANS)) pa_nil))))) pa_nil)))) pss_nil)
      (pss_cons (ps_set (i := 2) sc_parts_of.nd rfl (by first | exact Or.inl rfl | exact Or.inr rfl) (pe_or (pe_and (pe_cmpR op_in_seq (pe_ix ix_tup (pv 0) pe_int (fun _ _ => rfl)) (pe_tup (pa_cons pe_str (pa_cons pe_str pa_nil))) (by rfl)) (pe_one (pe_chain op_le op_le pe_int (pe_callB call_len (by rfl) T.Z_len (by decide +kernel) (pa_cons (pv 0) pa_nil)) pe_int))) (pe_one (pe_and (pe_cmpR op_eq (pe_ix ix_tup (pv 0) pe_int (fun _ _ => rfl)) pe_str (nomark _)) (pe_one (pe_cmpR op_eq (pe_callB call_len (by rfl) T.Z_len (by decide +kernel) (pa_cons (pv 0) pa_nil)) pe_int (nomark _)))))))
      (pss_cons (ps_set (i := 4) sc_parts_of.nd rfl (by first | exact Or.inl rfl | exact Or.inr rfl) (pe_ifExp (pt_val (pv 2)) (pe_lc (own := [("part", 3)]) rfl sc_parts_of.nd (pi_tup (pe_slice sl_tupA (pv 0) (po_some pe_int) po_none)) (blkOk_by (own := [("part", 3)]) (N := ["thing", "deep", "good", "part", "rows"]) (sc := defScope s_parts_of) (by decide +kernel)) (fun _ _ _ _ _ => (pg_name (i := 3) sc_parts_of.nd rfl (by first | exact Or.inl rfl | exact Or.inr rfl))) (fun _ _ _ _ _ => pts_nil) (fun _ _ _ _ _ => (pe_f ih hr pn0 (pa_cons (pv 3) (pa_cons (pe_op op_sub (pv 1) pe_int) pa_nil))))) (pe_lst (pa_cons pe_int pa_nil))))
      (pss_one (ps_ret (pe_ifExp (pt_cmpR op_notIn_seq pe_int (pv 4) (by rfl)) (pe_op op_add pe_int (pe_callB (cr_sum rfl) (by rfl) T.Z_sum (by decide +kernel) (pa_cons (pv 4) pa_nil))) pe_int))))))), ?_⟩
    walk_at "0"
    walk_at "g"
    refine if_b (fun h => ?_) (fun h => ?_)
    · walk_at "g"
      have hk0 : k = 0 := by
        simp at h
        exact h
      subst hk0
      exact q _ (Same.refl _)
    obtain ⟨j, rfl⟩ : ∃ j, k = j + 1 := by
      cases k with
      | zero => simp at h
      | succ j => exact ⟨j, rfl⟩
    walk_at "g"
    refine isi_tuple hd ?_
    walk_at "g"
    cases ht : isTupD d with
    | false =>
      walk_at "g"
      rw [← partsOf_no (n := j + 1) ht]
      exact q _ (Same.refl _)
    | true =>
    obtain ⟨ds, rfl⟩ := is_tup ht
    walk_at "g"
    walk_at "g"
    refine w_lenD hd ?_
    walk_at "g"
    refine if_b (fun h2 => ?_) (fun h2 => ?_)
    · walk_at "g"
      rw [← partsOf_short (n := j + 1) (ds := ds) (by simp at h2; omega)]
      exact q _ (Same.refl _)
    have h2 : 2 ≤ ds.length := by
      simp at h2
      omega
    match ds, h2 with
    | x :: a :: r, _ =>
    walk_at "g"
    refine w_ixD0 hd fun u0 h0 => ?_
    walk_at "g"
    refine isi_str h0 ?_
    walk_at "g"
    cases es : isStrD x with
    | false =>
      refine if_t rfl ?_
      walk_at "g"
      rw [← partsOf_word (n := j + 1) (a := a) (r := r) es]
      exact q _ (Same.refl _)
    | true =>
    obtain ⟨z, rfl⟩ := is_str es
    refine if_f rfl ?_
    walk_at "g"
    refine w_ixD0 hd fun u1 h1 => ?_
    cases dp_str h1
    walk_at "g"
    refine ⟨sz (by simp), fun p np => ?_⟩
    have s1 : Same H (upd H p (.tup [.str "land", .str "plan"])) := Same.new np
    refine w_inT (tupOf upd_same) rfl rfl ?_
    rw [inV_two]
    generalize upd H p (.tup [.str "land", .str "plan"]) = H1 at *
    have hd1 := dp_s s1 hd
    have sha : okD a = true := okD_mem sh (by simp)
    walk_at "g"
    refine if_b (fun hw => ?_) (fun hw => ?_)
    · walk_at "g"
      refine w_lenD hd1 ?_
      walk_at "g"
      have er : decide (((PyData.str z :: a :: r).length : Int) = 2) = r.isEmpty := by
        cases r with
        | nil => rfl
        | cons y t => simp only [List.length_cons, List.isEmpty_cons, decide_eq_false_iff_not]; omega
      rw [er]
      refine if_b (fun hr0 => ?_) (fun hr0 => ?_)
      · walk_at "g"
        refine w_ixD1 hd1 fun u2 ha2 => ?_
        walk_at "g"
        refine w_ixD0 hd1 fun u3 h3 => ?_
        cases dp_str h3
        walk_at "g"
        by_cases hl : z = "land"
        · subst hl
          refine if_t (decide_eq_true rfl) ?_
          walk_at "g"
          refine ⟨_, a, 6, rfl, ha2, sha, fun H2 s2 => ?_⟩
          refine w_intB ?_
          rw [partsOf_land, hr0] at q
          exact q _ (s1.trans s2)
        · refine if_f (decide_eq_false hl) ?_
          walk_at "g"
          refine ⟨_, a, 4, rfl, ha2, sha, fun H2 s2 => ?_⟩
          refine w_intB ?_
          have hpl : z = "plan" := by
            simpa [hl] using hw
          subst hpl
          rw [partsOf_plan, hr0] at q
          exact q _ (s1.trans s2)
      · walk_at "g"
        have e : partsOf (j + 1) (.tuple (.str z :: a :: r)) = 0 := by
          by_cases hl : z = "land"
          · subst hl
            rw [partsOf_land, hr0]
            rfl
          · have hpl : z = "plan" := by
              simpa [hl] using hw
            subst hpl
            rw [partsOf_plan, hr0]
            rfl
        rw [e] at q
        exact q _ s1
    · have nl : ¬ z = "land" := fun e => by simp [e] at hw
      have npn : ¬ z = "plan" := fun e => by simp [e] at hw
      walk_at "s"
      refine evb_use (b := ((decide (z = "and") || decide (z = "or")) && (decide (1 ≤ r.length) && decide (r.length ≤ 4))) || (decide (z = "not") && r.isEmpty)) (evb_or (evb_and ?_ fun _ H2 s2 => ?_) fun _ H2 s2 => (evb_and ?_ fun _ H3 s3 => ?_)) (fun H2 s2 => ?_)
      · intro Q' q'
        walk_at "g"
        refine w_ixD0 hd1 fun u2 hz2 => ?_
        cases dp_str hz2
        walk_at "g"
        refine ⟨sz (by simp), fun p2 np2 => ?_⟩
        refine w_inT (tupOf upd_same) rfl rfl ?_
        rw [inV_two]
        exact q' _ (Same.new np2)
      · intro Q' q'
        walk_at "g"
        refine w_lenD (dp_s s2 hd1) ?_
        walk_at "g"
        simp only [List.length_cons]
        have e1 : decide ((3 : Int) ≤ ((r.length + 1 + 1 : Nat) : Int)) = decide (1 ≤ r.length) := by
          rw [decide_eq_decide]
          omega
        have e2 : decide (((r.length + 1 + 1 : Nat) : Int) ≤ 6) = decide (r.length ≤ 4) := by
          rw [decide_eq_decide]
          omega
        rw [e1]
        refine if_b (fun h3 => ?_) (fun h3 => ?_)
        · walk_at "g"
          rw [h3, Bool.true_and] at q'
          rw [e2]
          exact q' _ (Same.refl _)
        · rw [h3, Bool.false_and] at q'
          exact q' _ (Same.refl _)
      · intro Q' q'
        walk_at "g"
        refine w_ixD0 (dp_s s2 hd1) fun u2 hz2 => ?_
        cases dp_str hz2
        walk_at "g"
        exact q' _ (Same.refl _)
      · intro Q' q'
        walk_at "g"
        refine w_lenD (dp_s s3 (dp_s s2 hd1)) ?_
        walk_at "g"
        have er : decide (((PyData.str z :: a :: r).length : Int) = 2) = r.isEmpty := by
          cases r with
          | nil => rfl
          | cons y t => simp only [List.length_cons, List.isEmpty_cons, decide_eq_false_iff_not]; omega
        rw [er]
        exact q' _ (Same.refl _)
      rw [partsOf_more nl npn] at q
      have hd2 := dp_s s2 hd1
      walk_at "g"
      cases hG : ((decide (z = "and") || decide (z = "or")) && (decide (1 ≤ r.length) && decide (r.length ≤ 4))) || (decide (z = "not") && r.isEmpty) with
      | false =>
        rw [hG] at q
        walk_at "g"
        refine ⟨sz (by simp), fun p3 np3 => ?_⟩
        walk_at "g"
        refine w_ninL (xs := [.int 0]) (lstOf upd_same) rfl rfl ?_
        walk_at "g"
        exact q _ ((s1.trans s2).trans (Same.new np3))
      | true =>
        rw [hG] at q
        walk_at "g"
        obtain ⟨ad, xs, rfl, hx, hxs⟩ := dp_tuple hd2
        cases hxs with
        | cons hx0 hxs =>
        refine w_sl1 hx fun p3 np3 => ?_
        rename_i v0 xs
        have s3 : Same H2 (upd H2 p3 (.tup xs)) := Same.new np3
        have hp3 : (upd H2 p3 (.tup xs)) p3 = some (.tup xs) := upd_same
        generalize upd H2 p3 (.tup xs) = H3 at *
        walk_at "g"
        refine ⟨⟨xs, tupOf hp3⟩, ?_⟩
        have hxs3 := dps_s s3 hxs
        have hln : xs.length = (a :: r).length := dpAll_len hxs3
        have hsm := okD_len sh
        simp only [List.length_cons] at hsm hln
        refine lc_pure walk_tup (by omega) ((a :: r).map fun y => [V.int (partsOf j y)]) (by simp [hln]) (fun H' s => tupOf (s _ _ hp3)) ?_ ?_
        · rintro D i acc x H' H'' hD hi hacc hH' iv ⟨rfl, hxi⟩
          walk_at "g"
          refine ⟨rfl, ?_⟩
          walk_at "g"
          obtain ⟨e, he, hde⟩ := dpAll_getV hxs3 hxi
          have em : e ∈ (PyData.str z :: a :: r) := List.mem_cons_of_mem _ (List.mem_of_getElem? he)
          refine ⟨_, e, j, by simp, by omega, dp_s iv.1 hde, okD_mem sh em, fun H4 s4 => ?_⟩
          refine lcp_nx hD (by omega) hacc hH' iv s4 ?_
          rw [List.getElem?_map, he]
          rfl
        · intro D H4 hD s4 hH4
          rw [flat_one (fun y => V.int (partsOf j y))] at hH4
          have hH4 : H4 D = some (.lst (((a :: r).map (partsOf j)).map V.int)) := by
            rw [hH4, List.map_map]
            rfl
          have sT := ((s1.trans s2).trans s3).trans s4
          generalize hrs : (a :: r).map (partsOf j) = rs at *
          walk_at "g"
          refine w_ninL (lstOf hH4) rfl (flat_ints _) ?_
          rw [inV_ints]
          walk_at "g"
          cases h0 : rs.contains 0 with
          | true =>
            rw [h0] at q
            walk_at "g"
            exact q _ sT
          | false =>
            rw [h0] at q
            walk_at "g"
            refine w_sum (lstOf hH4) ?_
            walk_at "g"
            exact q _ sT
theorem ok_parts_of (T : Tx K mg) : Ok P w K mg base 9 "parts_of" ["thing", "deep"] (spPartsR K 6) := okr_parts_of T 6
theorem ok_is_condition (T : Tx K mg) : Ok P w K mg base 10 "is_condition" ["thing"] (spIsCond K) := by
  refine Ok.mk' T.G_is_condition T.F_is_condition (fun _ _ _ _ _ _ us hl => match us, hl with | [_], _ => rfl) sc_is_condition (fun vs H Q E h => ?_) (fun cdv A outer s H vs Q E hr h => ?_)
  · obtain ⟨v, d, rfl, hd, sh, q⟩ := h
    rfl
  · obtain ⟨v, d, rfl, hd, sh, q⟩ := h
    refine ⟨(tRet (tChain oLe oLe (tC (.int 1)) (tCall (spPartsR K 6) [] E (tCons (tVar 0) (tCons (tC (.int 5)) tNil))) (tC (.int 40)))), (pss_one (ps_ret (pe_chain op_le op_le pe_int (pe_f (ok_parts_of T) hr (pnx (L2N.takes_of rfl rfl rfl rfl)) (pa_cons (pv 0) (pa_cons (pe_gi T.I_MOST_DEEP) pa_nil))) (pe_gi T.I_MOST_PARTS)))), ?_⟩
    walk_at "0"
    walk_at "g"
    refine ⟨v, d, 5, rfl, by decide, hd, sh, fun H1 s1 => ?_⟩
    walk_at "g"
    refine if_b (fun h => ?_) (fun h => ?_)
    · walk_at "g"
      have e : isCond d = decide (partsOf 5 d ≤ 40) := by
        simp only [isCond, h, Bool.true_and]
      rw [← e]
      exact q _ s1
    · have e : isCond d = false := by
        simp only [isCond, h, Bool.false_and]
      rw [← e]
      exact q _ s1
theorem ok_is_rule (T : Tx K mg) : Ok P w K mg base 11 "is_rule" ["thing"] (spIsRule K) := by
  refine Ok.mk' T.G_is_rule T.F_is_rule (fun _ _ _ _ _ _ us hl => match us, hl with | [_], _ => rfl) sc_is_rule (fun vs H Q E h => ?_) (fun cdv A outer s H vs Q E hr h => ?_)
  · obtain ⟨v, d, rfl, hd, sh, q⟩ := h
    rfl
  · obtain ⟨v, d, rfl, hd, sh, q⟩ := h
    refine ⟨(tRet (tAndV (tCB (rIsi K) (tCons (tVar 0) (tCons (tC (.ty "tuple")) tNil))) (tAndV (tOp rEq (tCB (cLen K) (tCons (tVar 0) tNil)) (tC (.int 2))) (tAndV (tCall (spIsCond K) [] E (tCons (tOp (rIxT K) (tVar 0) (tC (.int 0))) tNil)) (tCall (spIsNum K) [] E (tCons (tOp (rIxT K) (tVar 0) (tC (.int 1))) (tCons (tC (.int 0)) (tCons (tC (.int 100)) tNil)))))))), (pss_one (ps_ret (pe_and (pe_callB call_isi (by rfl) T.Z_isinstance (by decide +kernel) (pa_cons (pv 0) (pa_cons (pe_bltn (v := .ty "tuple") (by rfl) T.Z_tuple (by decide +kernel) rfl) pa_nil))) (pe_and (pe_cmpR op_eq (pe_callB call_len (by rfl) T.Z_len (by decide +kernel) (pa_cons (pv 0) pa_nil)) pe_int (nomark _)) (pe_and (pe_f (ok_is_condition T) hr (pnx (L2N.takes_of rfl rfl rfl rfl)) (pa_cons (pe_ix ix_tup (pv 0) pe_int (fun _ _ => rfl)) pa_nil)) (pe_one (pe_f (ok_is_number T) hr (pnx (L2N.takes_of rfl rfl rfl rfl)) (pa_cons (pe_ix ix_tup (pv 0) pe_int (fun _ _ => rfl)) (pa_cons pe_int (pa_cons (pe_gi T.I_PLACES) pa_nil)))))))))), ?_⟩
    walk_at "0"
    walk_at "g"
    refine isi_tuple hd ?_
    walk_at "g"
    cases ht : isTupD d with
    | false =>
      walk_at "g"
      rw [← isRule_no ht]
      exact q _ (Same.refl _)
    | true =>
    obtain ⟨ds, rfl⟩ := is_tup ht
    walk_at "g"
    refine w_lenD hd ?_
    walk_at "g"
    refine if_b (fun h => ?_) (fun h => ?_)
    · have hl : ds.length = 2 := by
        simp at h
        omega
      match ds, hl with
      | [c, m], _ =>
      walk_at "g"
      refine w_ixD0 hd fun u0 h0 => ?_
      walk_at "g"
      refine ⟨u0, c, rfl, h0, okD_mem sh (by simp), fun H1 s1 => ?_⟩
      walk_at "g"
      cases hc : isCond c with
      | false =>
        walk_at "g"
        have e : isRule (.tuple [c, m]) = false := by
          simp only [isRule, hc, Bool.false_and]
        rw [← e]
        exact q _ s1
      | true =>
        walk_at "g"
        refine w_ixD1 (dp_s s1 hd) fun u1 h1 => ?_
        walk_at "g"
        refine ⟨u1, m, 0, 100, rfl, h1, ?_⟩
        have e : isRule (.tuple [c, m]) = isNum m 0 100 := by
          simp only [isRule, hc, Bool.true_and]
        rw [← e]
        exact q _ s1
    · have e : isRule (.tuple ds) = false := isRule_len fun z => by
        rw [z] at h
        simp at h
      rw [← e]
      exact q _ (Same.refl _)
theorem ok_are_rules (T : Tx K mg) : Ok P w K mg base 12 "are_rules" ["thing"] (spAreRules K) := by
  refine Ok.mk' T.G_are_rules T.F_are_rules (fun _ _ _ _ _ _ us hl => match us, hl with | [_], _ => rfl) sc_are_rules (fun vs H Q E h => ?_) (fun cdv A outer s H vs Q E hr h => ?_)
  · obtain ⟨v, d, rfl, hd, sh, q⟩ := h
    rfl
  · obtain ⟨v, d, rfl, hd, sh, q⟩ := h
    refine ⟨(tRet (tAndV (tCB (rIsi K) (tCons (tVar 0) (tCons (tC (.ty "tuple")) tNil))) (tAndV (tOp oLe (tCB (cLen K) (tCons (tVar 0) tNil)) (tC (.int 6))) (tCB (rAll K) (tCons (tLc (iTup K (tVar 0)) (gName 1) tYes (tCall (spIsRule K) [] E0 (tCons (tVar 1) tNil)) [1]) tNil))))), (pss_one (ps_ret (pe_and (pe_callB call_isi (by rfl) T.Z_isinstance (by decide +kernel) (pa_cons (pv 0) (pa_cons (pe_bltn (v := .ty "tuple") (by rfl) T.Z_tuple (by decide +kernel) rfl) pa_nil))) (pe_and (pe_cmpR op_le (pe_callB call_len (by rfl) T.Z_len (by decide +kernel) (pa_cons (pv 0) pa_nil)) pe_int (nomark _)) (pe_one (pe_callB (cr_all rfl) (by rfl) T.Z_all (by decide +kernel) (pa_cons (pe_lc (own := [("one", 1)]) rfl sc_are_rules.nd (pi_tup (pv 0)) (blkOk_by (own := [("one", 1)]) (N := ["thing", "one"]) (sc := defScope s_are_rules) (by decide +kernel)) (fun _ _ _ _ _ => (pg_name (i := 1) sc_are_rules.nd rfl (by first | exact Or.inl rfl | exact Or.inr rfl))) (fun _ _ _ _ _ => pts_nil) (fun _ _ _ _ _ => (pe_f (ok_is_rule T) hr pn0 (pa_cons (pv 1) pa_nil)))) pa_nil))))))), ?_⟩
    walk_at "0"
    walk_at "g"
    refine isi_tuple hd ?_
    walk_at "g"
    cases ht : isTupD d with
    | false =>
      walk_at "g"
      rw [← areRules_no ht]
      exact q _ (Same.refl _)
    | true =>
    obtain ⟨ds, rfl⟩ := is_tup ht
    walk_at "g"
    refine w_lenD hd ?_
    walk_at "g"
    have e6 : decide ((ds.length : Int) ≤ 6) = decide (ds.length ≤ 6) := by
      rw [decide_eq_decide]
      omega
    rw [e6]
    cases h6 : decide (ds.length ≤ 6) with
    | false =>
      walk_at "g"
      have e : areRules (.tuple ds) = false := by
        simp only [areRules, h6, Bool.false_and]
      rw [← e]
      exact q _ (Same.refl _)
    | true =>
      walk_at "g"
      obtain ⟨a, xs, rfl, hx, hxs⟩ := dp_tuple hd
      walk_at "g"
      refine ⟨⟨xs, hx⟩, ?_⟩
      have hxl : xs.length = ds.length := dpAll_len hxs
      have hsm : ds.length ≤ 6 := of_decide_eq_true h6
      refine lc_pure walk_tup (by omega) (ds.map fun y => [V.bl (isRule y)]) (by simp [hxl]) (fun H' s => tup_s s hx) ?_ ?_
      · rintro D i acc x H' H'' hD hi hacc hH' iv ⟨rfl, hxi⟩
        walk_at "g"
        refine ⟨rfl, ?_⟩
        walk_at "g"
        obtain ⟨e, he, hde⟩ := dpAll_getV hxs hxi
        refine ⟨x, e, rfl, dp_s iv.1 hde, okD_mem sh (List.mem_of_getElem? he), fun H1 s1 => ?_⟩
        refine lcp_nx hD (by omega) hacc hH' iv s1 ?_
        rw [List.getElem?_map, he]
        rfl
      · intro D H1 hD s1 hH1
        rw [flat_one (fun y => V.bl (isRule y))] at hH1
        walk_at "g"
        refine w_all (bs := ds.map isRule) (lstOf (by rw [hH1, List.map_map]; rfl)) ?_
        have e : areRules (.tuple ds) = (ds.map isRule).all id := by
          rw [List.all_map]
          simp only [areRules, h6, Bool.true_and]
          rfl
        rw [← e]
        exact q _ s1
theorem ok_need_rules (T : Tx K mg) : Ok P w K mg base 13 "need_rules" ["thing"] (spNeedRules K) := by
  refine Ok.mk' T.G_need_rules T.F_need_rules (fun _ _ _ _ _ _ us hl => match us, hl with | [_], _ => rfl) sc_need_rules (fun vs H Q E h => ?_) (fun cdv A outer s H vs Q E hr h => ?_)
  · obtain ⟨v, d, rfl, hd, sh, q1, q2⟩ := h
    rfl
  · obtain ⟨v, d, rfl, hd, sh, q1, q2⟩ := h
    refine ⟨(tIfS (tNot (tB (tCall (spAreRules K) [] E (tCons (tVar 0) tNil)))) (tRz K E "BadRules") tNext), (pss_one (ps_if (pt_not (pt_val (pe_f (ok_are_rules T) hr (pnx (L2N.takes_of rfl rfl rfl rfl)) (pa_cons (pv 0) pa_nil)))) (pss_one (ps_rz T.X_BadRules (L2N.takes_of rfl rfl rfl rfl))) pss_nil)), ?_⟩
    walk_at "0"
    walk_at "g"
    refine ⟨v, d, rfl, hd, sh, fun H1 s1 => ?_⟩
    walk_at "g"
    cases h : areRules d with
    | true =>
      walk_at "g"
      exact q1 h _ s1
    | false =>
      walk_at "g"
      exact q2 h _ s1
theorem ok_Board_put (T : Tx K mg) : OkM P w K mg base 14 "Board" "put" ["self", "name", "deal", "rules"] (spBrdPut K) := by
  refine OkM.mk' T.M_Board_put T.F_Board_put (fun _ _ _ _ _ _ us hl => match us, hl with | [_, _, _, _], _ => rfl) sc_Board_put (fun vs H Q E h => ?_) (fun cdv A outer s H vs Q E hr h => ?_)
  · obtain ⟨b, L, N, t, past, vn, dn, vd, dd, vr, dr, rfl, hA, hvn, hfs, hvd, hvr, hok, him, hN, hl, q⟩ := h
    rfl
  · obtain ⟨b, L, N, t, past, vn, dn, vd, dd, vr, dr, rfl, hA, hvn, hfs, hvd, hvr, hok, him, hN, hl, q⟩ := h
    refine ⟨(tSeq (tDrop (tCall (spNeedName K) [] E (tCons (tVar 1) tNil)))
      (tSeq (tIfS (tB (tDIn (tVar 1) (tFld K (tVar 0) "table"))) (tRz K E "Known") tNext)
      (tSeq (tDrop (tCall (spNeedDeal K) [] E (tCons (tVar 2) tNil)))
      (tSeq (tDrop (tCall (spNeedRules K) [] E (tCons (tVar 3) tNil)))
      (tSeq (tIfS (tTest (tOp rEq (tCB rLenD (tCons (tFld K (tVar 0) "table") tNil)) (tC (.int 12)))) (tRz K E "Full") tNext)
      (tDrop (tMeth (He.ga K "Board") "gets" (spBrdGets K) [] E (tVar 0) (tCons (tVar 1) (tCons (tTup (tCons (tVar 2) (tCons (tVar 3) (tCons (tTup tNil) (tCons (tC (.bl false)) tNil))))) tNil))))))))), (pss_cons (ps_expr (pe_f (ok_need_name T) hr (pnx (L2N.takes_of rfl rfl rfl rfl)) (pa_cons (pv 1) pa_nil)))
      (pss_cons (ps_if (pt_cmp (pc_din (hu1 hr) (pv 1) (pe_fld (pv 0) rfl))) (pss_one (ps_rz T.X_Known (L2N.takes_of rfl rfl rfl rfl))) pss_nil)
      (pss_cons (ps_expr (pe_f (ok_need_deal T) hr (pnx (L2N.takes_of rfl rfl rfl rfl)) (pa_cons (pv 2) pa_nil)))
      (pss_cons (ps_expr (pe_f (ok_need_rules T) hr (pnx (L2N.takes_of rfl rfl rfl rfl)) (pa_cons (pv 3) pa_nil)))
      (pss_cons (ps_if (pt_cmpR op_eq (pe_callB call_lenD (by rfl) T.Z_len (by decide +kernel) (pa_cons (pe_fld (pv 0) rfl) pa_nil)) (pe_gi T.I_MOST) (nomark _)) (pss_one (ps_rz T.X_Full (L2N.takes_of rfl rfl rfl rfl))) pss_nil)
      (pss_one (ps_expr (pe_m (ok_Board_gets T) T.C_Board hr (pnx (L2N.takes_of rfl rfl rfl rfl)) (pv 0) (pa_cons (pv 1) (pa_cons (pe_tup (pa_cons (pv 2) (pa_cons (pv 3) (pa_cons (pe_tup pa_nil) (pa_cons pe_bl pa_nil))))) pa_nil)))))))))), ?_⟩
    walk_at "0"
    walk_at "g"
    refine ⟨vn, dn, rfl, hvn, hfs, fun hn H1 s1 => ?_, fun hn H1 s1 => ?_⟩
    · obtain ⟨z, rfl⟩ := isName_str hn
      cases dp_str hvn
      obtain ⟨dx, d, ds, hb, hd, hL, hp⟩ := (hA.s s1).ex
      obtain ⟨kvs, hk, hr2⟩ := hd.ex
      have e0 : putR t (.str z) dd dr = if z ∈ namesT t then .bad "Known" else if isDeal dd = false then .bad "BadDeal" else if areRules dr = false then .bad "BadRules" else if t.length = 12 then .bad "Full" else .ok (putT t z ⟨dd, dr, [], false⟩) := by
        unfold putR
        simp only [hn, Bool.true_eq_false, if_false]
      rw [e0] at q
      walk_at "g"
      refine w_din (w_var rfl (w_tfld (w_var rfl ⟨b, _, dx, _, .ref d, rfl, hb, T.C_Board, T.N_Board_table, rfl, ?_⟩)))
      refine a_dinS (.inl hk) ?_
      rw [hr2.isIn]
      walk_at "g"
      refine if_b (fun hz => ?_) (fun hz => ?_)
      · have hz := of_decide_eq_true hz
        rw [if_pos hz] at q
        walk_at "g"
        exact q _ s1
      · have hz := of_decide_eq_false hz
        rw [if_neg hz] at q
        walk_at "g"
        refine ⟨vd, dd, rfl, dp_s s1 hvd, fun hdd => ?_, fun hdd => ?_⟩
        · rw [if_neg (by rw [hdd]; simp)] at q
          walk_at "g"
          refine ⟨vr, dr, rfl, dp_s s1 hvr, hok, fun hdr H2 s2 => ?_, fun hdr H2 s2 => ?_⟩
          · rw [if_neg (by rw [hdr]; simp)] at q
            have s02 := s1.trans s2
            walk_at "g"
            refine w_tfld (w_var rfl ⟨b, _, dx, _, .ref d, rfl, s2 _ _ hb, T.C_Board, T.N_Board_table, rfl, ?_⟩)
            walk_at "g"
            refine w_lenK (s2 _ _ hk) ?_
            rw [hr2.len]
            walk_at "g"
            refine if_b (fun h12 => ?_) (fun h12 => ?_)
            · have h12 := of_decide_eq_true h12
              rw [if_pos (by omega)] at q
              walk_at "g"
              exact q _ s02
            · have h12 := of_decide_eq_false h12
              rw [if_neg (by omega)] at q
              walk_at "p"
              refine w_meth (w_var rfl ⟨b, dx, _, rfl, s2 _ _ hb, rfl, ?_⟩)
              walk_at "g"
              refine w_newT (by simp) fun p1 H3 s3 np1 hp1 => ?_
              walk_at "g"
              refine w_newT (by simp) fun p2 H4 s4 np2 hp2 => ?_
              walk_at "g"
              have s04 := s02.trans (s3.trans s4)
              have hlen := hA.ok.len
              refine ⟨b, L, N, t, past, z, .ref p2, ⟨dd, dr, [], false⟩, rfl, hA.s s04, row_of hp2 (dp_s s04 hvd) (dp_s s04 hvr) (.tup (tupOf (s4 _ _ hp1)) .nil), ?_, fun x hx => ?_, hl, fun H5 k5 hB => q H5 ((Bd.of s04).trans k5) hB⟩
              · refine hA.ok.new hz (by omega) hn ⟨hdd, hok, hdr, him hdr, by simp, rfl, by simp⟩ rfl
              · obtain ⟨o, ho⟩ := hN x hx
                exact ⟨o, s04 _ _ ho⟩
          · rw [if_pos hdr] at q
            exact q _ (s1.trans s2)
        · rw [if_pos hdd] at q
          exact q _ s1
    · rw [putR_no hn] at q
      exact q _ s1
theorem ok_Board_rule (T : Tx K mg) : OkM P w K mg base 14 "Board" "rule" ["self", "name", "rules"] (spBrdRule K) := by
  refine OkM.mk' T.M_Board_rule T.F_Board_rule (fun _ _ _ _ _ _ us hl => match us, hl with | [_, _, _], _ => rfl) sc_Board_rule (fun vs H Q E h => ?_) (fun cdv A outer s H vs Q E hr h => ?_)
  · obtain ⟨b, L, N, t, past, vn, dn, vr, dr, rfl, hA, hvn, hfs, hvr, hok, him, hN, hl, q⟩ := h
    rfl
  · obtain ⟨b, L, N, t, past, vn, dn, vr, dr, rfl, hA, hvn, hfs, hvr, hok, him, hN, hl, q⟩ := h
    refine ⟨(tSeq (tDrop (tMeth (He.ga K "Board") "need_switch" (spBrdNeed K) [] E (tVar 0) (tCons (tVar 1) tNil)))
      (tSeq (tDrop (tCall (spNeedRules K) [] E (tCons (tVar 2) tNil)))
      (tSeq (tAsg (tDGet (tFld K (tVar 0) "table") (tVar 1)) (gTup K 4 (gCons (gName 3) (gCons (gName 4) (gCons (gName 5) (gCons (gName 6) gNil))))))
      (tDrop (tMeth (He.ga K "Board") "gets" (spBrdGets K) [] E (tVar 0) (tCons (tVar 1) (tCons (tTup (tCons (tVar 3) (tCons (tVar 2) (tCons (tVar 5) (tCons (tVar 6) tNil))))) tNil))))))), (pss_cons (ps_expr (pe_m (ok_Board_need_switch T) T.C_Board hr (pnx (L2N.takes_of rfl rfl rfl rfl)) (pv 0) (pa_cons (pv 1) pa_nil)))
      (pss_cons (ps_expr (pe_f (ok_need_rules T) hr (pnx (L2N.takes_of rfl rfl rfl rfl)) (pa_cons (pv 2) pa_nil)))
      (pss_cons (ps_asg (pe_dget (hu1 hr) (pe_fld (pv 0) rfl) (pv 1) (fun _ _ => rfl)) (pg_tup (by rfl) (pgs_cons (pg_name (i := 3) sc_Board_rule.nd rfl (by first | exact Or.inl rfl | exact Or.inr rfl)) (pgs_cons (pg_name (i := 4) sc_Board_rule.nd rfl (by first | exact Or.inl rfl | exact Or.inr rfl)) (pgs_cons (pg_name (i := 5) sc_Board_rule.nd rfl (by first | exact Or.inl rfl | exact Or.inr rfl)) (pgs_cons (pg_name (i := 6) sc_Board_rule.nd rfl (by first | exact Or.inl rfl | exact Or.inr rfl)) pgs_nil))))))
      (pss_one (ps_expr (pe_m (ok_Board_gets T) T.C_Board hr (pnx (L2N.takes_of rfl rfl rfl rfl)) (pv 0) (pa_cons (pv 1) (pa_cons (pe_tup (pa_cons (pv 3) (pa_cons (pv 2) (pa_cons (pv 5) (pa_cons (pv 6) pa_nil))))) pa_nil)))))))), ?_⟩
    walk_at "0"
    obtain ⟨dx, d, ds, hb, hd, hL, hp⟩ := hA.ex
    obtain ⟨kvs, hk, hr2⟩ := hd.ex
    unfold ruleR at q
    walk_at "p"
    refine w_meth (w_var rfl ⟨b, dx, _, rfl, hb, rfl, ?_⟩)
    walk_at "g"
    refine ⟨b, L, N, t, past, vn, dn, rfl, hA, hvn, hfs, fun hs H1 s1 => ?_, fun hs H1 s1 => ?_⟩
    · obtain ⟨z, r, rfl, er, ew⟩ := swRow_is hs
      rw [ew] at q
      simp only at q
      cases dp_str hvn
      obtain ⟨u, eu, hu⟩ := hr2.val er
      obtain ⟨p, ud, ur, un, rfl, hpt, h1, h2, h3⟩ := row_at hu
      walk_at "g"
      refine ⟨vr, dr, rfl, dp_s s1 hvr, hok, fun hdr H2 s2 => ?_, fun hdr H2 s2 => ?_⟩
      · rw [if_neg (by rw [hdr]; simp)] at q
        have s02 := s1.trans s2
        walk_at "p"
        refine w_dget (w_tfld (w_var rfl ⟨b, _, dx, _, .ref d, rfl, s02 _ _ hb, T.C_Board, T.N_Board_table, rfl, w_var rfl ?_⟩))
        refine a_dgetS (.inl (s02 _ _ hk)) eu ?_
        refine w_gtup (RG.Same.tup s02 hpt) rfl ?_
        walk_at "p"
        refine w_meth (w_var rfl ⟨b, dx, _, rfl, s02 _ _ hb, rfl, ?_⟩)
        walk_at "g"
        refine w_newT (by simp) fun p2 H4 s4 np2 hp2 => ?_
        walk_at "g"
        have s04 := s02.trans s4
        have hro := hA.ok.row z r er
        refine ⟨b, L, N, t, past, z, .ref p2, { r with rules := dr }, rfl, hA.s s04, row_of hp2 (dp_s s04 h1) (dp_s s04 hvr) (dp_s s04 h3), ?_, fun x hx => ?_, hl, fun H5 k5 hB => q H5 ((Bd.of s04).trans k5) hB⟩
        · exact hA.ok.same er ⟨hro.deal, hok, hdr, him hdr, hro.nd, hro.srt, hro.mem⟩ rfl
        · obtain ⟨o, ho⟩ := hN x hx
          exact ⟨o, s04 _ _ ho⟩
      · rw [if_pos hdr] at q
        exact q _ (s1.trans s2)
    · rw [swRow_no hs] at q
      exact q _ s1
theorem ok_Board_reach (T : Tx K mg) : OkM P w K mg base 1 "Board" "reach" ["self", "names"] (spBrdReach K) := by
  refine OkM.mk' T.M_Board_reach T.F_Board_reach (fun _ _ _ _ _ _ us hl => match us, hl with | [_, _], _ => rfl) sc_Board_reach (fun vs H Q E h => ?_) (fun cdv A outer s H vs Q E hr h => ?_)
  · obtain ⟨b, L, N, t, past, a, ns, rfl, hA, ha, hl, hm, q⟩ := h
    rfl
  · obtain ⟨b, L, N, t, past, a, ns, rfl, hA, ha, hl, hm, q⟩ := h
    refine ⟨(tSeq (tPar 2 3 (tCons (tLst tNil) (tCons (tCB (cList K) (tCons (tVar 1) tNil)) tNil)))
      (tSeq (tWhile (tTest (tOp (rNeD K) (tVar 3) (tLst tNil))) (tSeq (tAsg (tBM0 K "list" rPop (tVar 3)) (gName 4))
      (tIfS (tTest (tOp (rIn K true) (tVar 4) (tVar 2))) (tSeq (tDrop (tBM K "list" rAppend (tVar 2) (tCons (tVar 4) tNil)))
      (tAsg (tOp rCat (tVar 3) (tCB (cList K) (tCons (tOp (rIxT K) (tDGet (tFld K (tVar 0) "table") (tVar 4)) (tC (.int 2))) tNil))) (gName 3))) tNext)))
      (tRet (tCB (rSortedS K) (tCons (tVar 2) tNil))))), (pss_cons (ps_par (by rfl) sc_Board_reach.nd rfl rfl (by decide) rfl rfl (pa_cons (pe_lst pa_nil) (pa_cons (pe_callTy call_list_of (by rfl) T.Z_list (by decide +kernel) (pa_cons (pv 1) pa_nil)) pa_nil)) (by rfl))
      (pss_cons (ps_while (passes_of rfl) (pt_cmpR (op_neD hr.units) (pv 3) (pe_lst pa_nil) (nomark _)) (pss_cons (ps_set (i := 4) sc_Board_reach.nd rfl (by first | exact Or.inl rfl | exact Or.inr rfl) (pe_bm0 PySem.F.plainAttrs_list PySem.F.slot_list_pop PySem.F.type_list_pop mt_pop (pv 3)))
      (pss_one (ps_if (pt_cmpR op_notIn_seq (pv 4) (pv 2) (by rfl)) (pss_cons (ps_expr (pe_bm PySem.F.plainAttrs_list PySem.F.slot_list_append PySem.F.type_list_append mt_append (pv 2) (pa_cons (pv 4) pa_nil)))
      (pss_one (ps_set (i := 3) sc_Board_reach.nd rfl (by first | exact Or.inl rfl | exact Or.inr rfl) (pe_op op_cat (pv 3) (pe_callTy call_list_of (by rfl) T.Z_list (by decide +kernel) (pa_cons (pe_ix ix_tup (pe_dget (hu1 hr) (pe_fld (pv 0) rfl) (pv 4) (fun _ _ => rfl)) pe_int (fun _ _ => rfl)) pa_nil)))))) pss_nil))))
      (pss_one (ps_ret (pe_callB cr_sortedS (by rfl) T.Z_sorted (by decide +kernel) (pa_cons (pv 2) pa_nil)))))), ?_⟩
    walk_at "0"
    obtain ⟨dx, d, ds, hb, hd, hL, hp⟩ := hA.ex
    obtain ⟨kvs, hk, hr2⟩ := hd.ex
    walk_at "g"
    refine w_newL (by simp) fun F H1 s1 nF hF => ?_
    walk_at "g"
    have ha1 : SqL K H1 a (ns.map V.str) ∨ SqT K H1 a (ns.map V.str) := ha.imp (fun z => s1.seq z) fun z => RG.Same.tup s1 z
    refine ⟨a, ns.map V.str, rfl, ha1, fun Td nTd => ?_⟩
    have sT : Same H1 (upd H1 Td (.lst (ns.map V.str))) := Same.new nTd
    have hFT : F ≠ Td := fun z => by rw [← z, hF] at nTd; cases nTd
    have hw := wt_le hA.ok
    walk_at "g"
    refine w_while (fun m σ H' => ∃ Td fl td x4, σ = [some (.ref b), some (.ref a), some (.ref F), some (.ref Td), x4] ∧ m = td.length + wtT fl t ∧ m ≤ 300 ∧ Same H H' ∧ H Td = none ∧ F ≠ Td ∧ H' F = some (.lst (fl.map V.str)) ∧ H' Td = some (.lst (td.map V.str)) ∧ RcI t ns fl td) (m0 := ns.length + wtT [] t) ⟨Td, [], ns, _, rfl, rfl, by omega, s1.trans sT, s1.free nTd, hFT, sT _ _ hF, upd_same, rcI_start hm⟩ ?_
    rintro m σ H' ⟨Td, fl, td, x4, rfl, rfl, hm3, s2, nT, hFT, hF2, hT2, hI⟩
    walk_at "g"
    refine w_newL (by simp) fun E0 H3 s3 nE hE => ?_
    have hnT : ∀ z ∈ td, isName (.str z) = true := fun z hz => hA.ok.nm z (hI.mt z hz)
    refine w_neD (d := .list (td.map PyData.str)) (e := .list []) (.lst (lstOf (s3 _ _ hT2)) (dps_strsB td)) (.lst (lstOf hE) .nil) (gd_namesL hnT (by omega)).sh rfl ?_
    rw [eqv_strsNil]
    have hF3 := s3 _ _ hF2
    have hT3 := s3 _ _ hT2
    refine ⟨_, rfl, ?_⟩
    refine if_b (fun hb0 => ?_) (fun hb0 => ?_)
    · have hne : td ≠ [] := by simpa using hb0
      obtain ⟨td0, x, rfl⟩ : ∃ td0 x, td = td0 ++ [x] := ⟨td.dropLast, td.getLast hne, (List.dropLast_concat_getLast hne).symm⟩
      refine ⟨fun σ' H' => ∃ m', m' < (td0 ++ [x]).length + wtT fl t ∧ ∃ Td fl td x4, σ' = [some (.ref b), some (.ref a), some (.ref F), some (.ref Td), x4] ∧ m' = td.length + wtT fl t ∧ m' ≤ 300 ∧ Same H H' ∧ H Td = none ∧ F ≠ Td ∧ H' F = some (.lst (fl.map V.str)) ∧ H' Td = some (.lst (td.map V.str)) ∧ RcI t ns fl td, fun _ _ h => h, ?_⟩
      walk_at "p"
      refine w_bm0 (w_var rfl ⟨tyL hT3, Td, _, .str x, rfl, rfl, hT3, by simp, ?_⟩)
      have s4 : Same H (upd H3 Td (.lst ((td0 ++ [x]).map V.str).dropLast)) := same_put (s2.trans s3) nT
      have eT : ((td0 ++ [x]).map V.str).dropLast = td0.map V.str := by simp
      rw [eT] at s4 ⊢
      rw [List.length_append, List.length_singleton] at hm3 ⊢
      walk_at "g"
      have hF4 : (upd H3 Td (.lst (td0.map V.str))) F = some (.lst (fl.map V.str)) := by rw [upd_ne hFT]; exact hF3
      refine w_ninL (lstOf hF4) rfl (flat_strs fl) ?_
      rw [inV_strs]
      walk_at "g"
      refine if_b (fun hx => ?_) (fun hx => ?_)
      · have hx : x ∉ fl := by simpa using hx
        obtain ⟨r, er⟩ := rowOf_some.mpr (hI.mt x (by simp))
        obtain ⟨u, eu, hu⟩ := hr2.val er
        have hfl : fl.length ≤ 12 := by
          have := nodup_len hI.nd hI.mf
          rw [len_names] at this
          have := hA.ok.len
          omega
        have hwa := wt_add hx hA.ok.nd er
        walk_at "p"
        refine w_bm (w_var rfl ⟨tyL hF4, ?_⟩)
        walk_at "g"
        refine w_app hF4 (by rw [List.length_map]; omega) ?_
        have eF : fl.map V.str ++ [.str x] = (fl ++ [x]).map V.str := by simp
        rw [eF]
        have s5 : Same H (upd (upd H3 Td (.lst (td0.map V.str))) F (.lst ((fl ++ [x]).map V.str))) := same_put s4 nF
        have hT5 : (upd (upd H3 Td (.lst (td0.map V.str))) F (.lst ((fl ++ [x]).map V.str))) Td = some (.lst (td0.map V.str)) := by rw [upd_ne hFT.symm, upd_same]
        walk_at "g"
        refine w_dget (w_tfld (w_var rfl ⟨b, _, dx, _, .ref d, rfl, s5 _ _ hb, T.C_Board, T.N_Board_table, rfl, w_var rfl ?_⟩))
        refine a_dgetS (.inl (s5 _ _ hk)) eu ?_
        walk_at "g"
        refine w_ixD2 (show Dp K _ u (.tuple [r.deal, r.rules, .tuple (r.needs.map PyData.str), .bool r.dim]) from dp_s s5 hu) fun u3 h3 => ?_
        cases h3 with
        | tup hn ht =>
        cases strs_dps ht
        walk_at "g"
        refine ⟨_, _, rfl, .inr hn, fun C nC => ?_⟩
        have hCT : Td ≠ C := fun z => by rw [← z, hT5] at nC; cases nC
        refine w_catN (by rw [upd_ne hCT]; exact hT5) upd_same (by simp; omega) fun G H7 s7 nG hG => ?_
        have s67 := (Same.new nC (o := .lst (r.needs.map V.str))).trans s7
        have hF7 : H7 F = some (.lst ((fl ++ [x]).map V.str)) := s67 _ _ upd_same
        have nG0 : H G = none := by
          cases e : H G with
          | none => rfl
          | some o =>
            have := (Same.new nC (o := .lst (r.needs.map V.str))) _ _ (s5 _ _ e)
            rw [nG] at this
            cases this
        have hFG : F ≠ G := fun z => by
          have := (Same.new nC (o := .lst (r.needs.map V.str))) F _ upd_same
          rw [← z, this] at nG
          cases nG
        walk_at "g"
        exact ⟨(td0 ++ r.needs).length + wtT (fl ++ [x]) t, by rw [List.length_append]; omega, G, fl ++ [x], td0 ++ r.needs, _, rfl, rfl, by rw [List.length_append]; omega, s5.trans s67, nG0, hFG, hF7, by rw [hG, List.map_append], rcI_take hA.ok hI hx er⟩
      · have hx : x ∈ fl := by simpa using hx
        walk_at "g"
        exact ⟨td0.length + wtT fl t, by omega, Td, fl, td0, _, rfl, rfl, by omega, s4, nT, hFT, hF4, upd_same, rcI_skip hI hx⟩
    · have hnil : td = [] := by simpa using hb0
      subst hnil
      have hfl : fl.length ≤ 12 := by
        have := nodup_len hI.nd hI.mf
        rw [len_names] at this
        have := hA.ok.len
        omega
      walk_at "g"
      exact ⟨F, fl, rfl, lstOf hF3, by omega, fun ys p pm srt np => q ys p _ ((s2.trans s3).trans (Same.new np)) ((s2.trans s3).free np) upd_same (rcI_end hI pm srt)⟩
theorem ok_Board_need (T : Tx K mg) : OkM P w K mg base 3 "Board" "need" ["self", "name", "needs"] (spBrdNeeds K) := by
  refine OkM.mk' T.M_Board_need T.F_Board_need (fun _ _ _ _ _ _ us hl => match us, hl with | [_, _, _], _ => rfl) sc_Board_need (fun vs H Q E h => ?_) (fun cdv A outer s H vs Q E hr h => ?_)
  · obtain ⟨b, L, N, t, past, vn, dn, vx, dd, rfl, hA, hvn, hfs, hvx, hfx, hN, hl, q⟩ := h
    rfl
  · obtain ⟨b, L, N, t, past, vn, dn, vx, dd, rfl, hA, hvn, hfs, hvx, hfx, hN, hl, q⟩ := h
    refine ⟨(tSeq (tDrop (tMeth (He.ga K "Board") "need_switch" (spBrdNeed K) [] E (tVar 0) (tCons (tVar 1) tNil)))
      (tSeq (tIfS (tNot (tB (tCB (rIsi K) (tCons (tVar 2) (tCons (tC (.ty "tuple")) tNil))))) (tRz K E "BadName") tNext)
      (tSeq (tFor (iTup K (tVar 2)) (gName 3) (tDrop (tMeth (He.ga K "Board") "need_switch" (spBrdNeed K) [] E (tVar 0) (tCons (tVar 3) tNil))))
      (tSeq (tIfS (tTest (tOp (rNeD K) (tCB (cList K) (tCons (tVar 2) tNil)) (tCB (rSortS w) (tCons (tCB (rSetS K w) (tCons (tVar 2) tNil)) tNil)))) (tRz K E "BadName") tNext)
      (tSeq (tIfS (tTest (tOp (rIn K false) (tVar 1) (tMeth (He.ga K "Board") "reach" (spBrdReach K) [] E (tVar 0) (tCons (tVar 2) tNil)))) (tRz K E "Ring") tNext)
      (tSeq (tAsg (tDGet (tFld K (tVar 0) "table") (tVar 1)) (gTup K 4 (gCons (gName 4) (gCons (gName 5) (gCons (gName 6) (gCons (gName 7) gNil))))))
      (tDrop (tMeth (He.ga K "Board") "gets" (spBrdGets K) [] E (tVar 0) (tCons (tVar 1) (tCons (tTup (tCons (tVar 4) (tCons (tVar 5) (tCons (tVar 2) (tCons (tVar 7) tNil))))) tNil)))))))))), (pss_cons (ps_expr (pe_m (ok_Board_need_switch T) T.C_Board hr (pnx (L2N.takes_of rfl rfl rfl rfl)) (pv 0) (pa_cons (pv 1) pa_nil)))
      (pss_cons (ps_if (pt_not (pt_val (pe_callB call_isi (by rfl) T.Z_isinstance (by decide +kernel) (pa_cons (pv 2) (pa_cons (pe_bltn (v := .ty "tuple") (by rfl) T.Z_tuple (by decide +kernel) rfl) pa_nil))))) (pss_one (ps_rz T.X_BadName (L2N.takes_of rfl rfl rfl rfl))) pss_nil)
      (pss_cons (ps_for (passes_of rfl) rfl (pi_tup (pv 2)) (pg_name (i := 3) sc_Board_need.nd rfl (by first | exact Or.inl rfl | exact Or.inr rfl)) (pss_one (ps_expr (pe_m (ok_Board_need_switch T) T.C_Board hr (pnx (L2N.takes_of rfl rfl rfl rfl)) (pv 0) (pa_cons (pv 3) pa_nil)))))
      (pss_cons (ps_if (pt_cmpR (op_neD hr.units) (pe_callTy call_list_of (by rfl) T.Z_list (by decide +kernel) (pa_cons (pv 2) pa_nil)) (pe_callB (cr_sortS rfl) (by rfl) T.Z_sorted (by decide +kernel) (pa_cons (pe_callTy (cr_setS rfl) (by rfl) T.Z_set (by decide +kernel) (pa_cons (pv 2) pa_nil)) pa_nil)) (nomark _)) (pss_one (ps_rz T.X_BadName (L2N.takes_of rfl rfl rfl rfl))) pss_nil)
      (pss_cons (ps_if (pt_cmpR op_in_seq (pv 1) (pe_m (ok_Board_reach T) T.C_Board hr (pnx (L2N.takes_of rfl rfl rfl rfl)) (pv 0) (pa_cons (pv 2) pa_nil)) (by rfl)) (pss_one (ps_rz T.X_Ring (L2N.takes_of rfl rfl rfl rfl))) pss_nil)
      (pss_cons (ps_asg (pe_dget (hu1 hr) (pe_fld (pv 0) rfl) (pv 1) (fun _ _ => rfl)) (pg_tup (by rfl) (pgs_cons (pg_name (i := 4) sc_Board_need.nd rfl (by first | exact Or.inl rfl | exact Or.inr rfl)) (pgs_cons (pg_name (i := 5) sc_Board_need.nd rfl (by first | exact Or.inl rfl | exact Or.inr rfl)) (pgs_cons (pg_name (i := 6) sc_Board_need.nd rfl (by first | exact Or.inl rfl | exact Or.inr rfl)) (pgs_cons (pg_name (i := 7) sc_Board_need.nd rfl (by first | exact Or.inl rfl | exact Or.inr rfl)) pgs_nil))))))
      (pss_one (ps_expr (pe_m (ok_Board_gets T) T.C_Board hr (pnx (L2N.takes_of rfl rfl rfl rfl)) (pv 0) (pa_cons (pv 1) (pa_cons (pe_tup (pa_cons (pv 4) (pa_cons (pv 5) (pa_cons (pv 2) (pa_cons (pv 7) pa_nil))))) pa_nil))))))))))), ?_⟩
    walk_at "0"
    obtain ⟨dx, d, ds, hb, hd, hL, hp⟩ := hA.ex
    obtain ⟨kvs, hk, hr2⟩ := hd.ex
    unfold needR at q
    walk_at "p"
    refine w_meth (w_var rfl ⟨b, dx, _, rfl, hb, rfl, ?_⟩)
    walk_at "g"
    refine ⟨b, L, N, t, past, vn, dn, rfl, hA, hvn, hfs, fun hs H1 s1 => ?_, fun hs H1 s1 => ?_⟩
    · obtain ⟨z, r, rfl, er, ew⟩ := swRow_is hs
      rw [ew] at q
      simp only at q
      cases dp_str hvn
      obtain ⟨u, eu, hu⟩ := hr2.val er
      obtain ⟨p, ud, ur, un, rfl, hpt, h1, h2, h3⟩ := row_at hu
      walk_at "g"
      refine isi_tuple (dp_s s1 hvx) ?_
      walk_at "g"
      cases hT : isTupD dd with
      | false =>
        walk_at "g"
        have e : BQ K N b L t past H Q E (.bad "BadName") := by
          cases dd <;> first | exact q | cases hT
        exact e _ s1
      | true =>
        obtain ⟨es, rfl⟩ : ∃ es, dd = .tuple es := by
          cases dd <;> first | exact ⟨_, rfl⟩ | cases hT
        simp only at q
        cases hvx with
        | @tup pa _ _ hx hxs =>
        walk_at "g"
        refine ⟨⟨_, RG.Same.tup s1 hx⟩, ?_⟩
        have hlx := dpAll_len hxs
        refine for_go (walk_tup (K := K) (a := pa)) (fun i σ H' => (∃ x3 x4 x5 x6 x7, σ = [some (.ref b), some (.str z), some (.ref pa), x3, x4, x5, x6, x7]) ∧ Same H H' ∧ (es.take i).all (isSwT t) = true) ⟨⟨_, _, _, _, _, rfl⟩, s1, rfl⟩ (fun i σ H' _ x => RG.Same.tup x.2.1 hx) ?_ ?_
        · rintro i x σ H' H'' hi ⟨⟨x3, x4, x5, x6, x7, rfl⟩, s2, hall⟩ ⟨rfl, hxi⟩
          obtain ⟨e, he, hve⟩ := dpAll_getV hxs hxi
          walk_at "p"
          refine w_meth (w_var rfl ⟨b, dx, _, rfl, s2 _ _ hb, rfl, ?_⟩)
          walk_at "g"
          refine ⟨b, L, N, t, past, x, e, rfl, hA.s s2, dp_s s2 hve, hfx.2 e (List.mem_of_getElem? he), fun hse H3 s3 => ?_, fun hse H3 s3 => ?_⟩
          · walk_at "g"
            refine ⟨⟨_, _, _, _, _, rfl⟩, s2.trans s3, ?_⟩
            rw [List.take_add_one, he, List.all_append, hall]
            simp [hse]
          · rw [if_pos ?_] at q
            · exact q _ (s2.trans s3)
            · rw [Bool.eq_false_iff]
              intro z
              rw [List.all_eq_true.mp z e (List.mem_of_getElem? he)] at hse
              cases hse
        · rintro σ H' ⟨⟨x3, x4, x5, x6, x7, rfl⟩, s2, hall⟩
          rw [hlx, List.take_of_length_le (Nat.le_refl _)] at hall
          rw [if_neg (by rw [hall]; simp)] at q
          obtain ⟨ns, rfl, hns⟩ := sw_strs hall
          cases strs_dps hxs
          rw [strsOf_map] at q
          have hl50 : ns.length ≤ 50 := by have := hfx.1; rw [List.length_map] at this; exact this
          have hnm : ∀ z ∈ ns, isName (.str z) = true := fun z hz => hA.ok.nm z (hns z hz)
          walk_at "g"
          refine ⟨pa, _, rfl, .inr (RG.Same.tup s2 hx), fun C nC => ?_⟩
          have s3 := s2.trans (Same.new nC (o := .lst (ns.map V.str)))
          walk_at "g"
          refine w_sortSet (ns := ns) (Ls := namesT t) (.inr (RG.Same.tup s3 hx)) (by omega) hns (by rw [len_names]; have := hA.ok.len; omega) (fun _ _ hx => w_nil hx) fun ys F H4 nF s4 hs1 hs2 hs3 hF => ?_
          have hys : ∀ z ∈ ys, isName (.str z) = true := fun z hz => hnm z ((hs3 z).mp hz)
          have hyl : ys.length ≤ 1000 := by
            have := nodup_len hs2 fun z hz => hns z ((hs3 z).mp hz)
            rw [len_names] at this
            have := hA.ok.len
            omega
          have s04 := s3.trans s4
          refine w_neD (d := .list (ns.map PyData.str)) (e := .list (ys.map PyData.str)) (.lst (lstOf (s4 _ _ upd_same)) (dps_strsB ns)) (.lst (lstOf hF) (dps_strsB ys)) (gd_namesL hnm (by omega)).sh (gd_namesL hys hyl).sh ?_
          rw [show PyData.eqv (.list (ns.map PyData.str)) (.list (ys.map PyData.str)) = PyData.eqvAll (ns.map PyData.str) (ys.map PyData.str) from rfl, eqv_strsE, ris_eq hs1 hs2 hs3]
          walk_at "g"
          refine if_b (fun hb1 => ?_) (fun hb1 => ?_)
          · have hb1 : risT ns = false := by simpa using hb1
            rw [if_pos hb1] at q
            walk_at "g"
            exact q _ s04
          · have hb1 : risT ns = true := by simpa using hb1
            rw [if_neg (by rw [hb1]; simp)] at q
            walk_at "g"
            refine w_meth (w_var rfl ⟨b, dx, _, rfl, s04 _ _ hb, rfl, ?_⟩)
            walk_at "g"
            refine ⟨b, L, N, t, past, pa, ns, rfl, hA.s s04, .inr (RG.Same.tup s04 hx), by omega, hns, fun zs G H5 s5 nG hG hz => ?_⟩
            have s05 := s04.trans s5
            refine w_inL (lstOf hG) rfl (flat_strs zs) ?_
            rw [inV_strs]
            walk_at "g"
            refine if_b (fun hb2 => ?_) (fun hb2 => ?_)
            · have hb2 := (hz.mem z).mp (of_decide_eq_true hb2)
              rw [if_pos hb2] at q
              walk_at "g"
              exact q _ s05
            · have hb2 : ¬ ∃ m ∈ ns, Rch t m z := fun w => of_decide_eq_false hb2 ((hz.mem z).mpr w)
              rw [if_neg hb2] at q
              walk_at "p"
              refine w_dget (w_tfld (w_var rfl ⟨b, _, dx, _, .ref d, rfl, s05 _ _ hb, T.C_Board, T.N_Board_table, rfl, w_var rfl ?_⟩))
              refine a_dgetS (.inl (s05 _ _ hk)) eu ?_
              refine w_gtup (RG.Same.tup s05 hpt) rfl ?_
              walk_at "p"
              refine w_meth (w_var rfl ⟨b, dx, _, rfl, s05 _ _ hb, rfl, ?_⟩)
              walk_at "g"
              refine w_newT (by simp) fun p2 H6 s6 np2 hp2 => ?_
              walk_at "g"
              have s06 := s05.trans s6
              have hro := hA.ok.row z r er
              simp only [risT, Bool.and_eq_true, decide_eq_true_eq] at hb1
              refine ⟨b, L, N, t, past, z, .ref p2, { r with needs := ns }, rfl, hA.s s06, row_of hp2 (dp_s s06 h1) (dp_s s06 h2) (.tup (RG.Same.tup s06 hx) (dps_strsB ns)), ?_, fun x hx => ?_, hl, fun H5 k5 hB => q H5 ((Bd.of s06).trans k5) hB⟩
              · exact hA.ok.need er ⟨hro.deal, hro.ok, hro.rules, hro.im, hb1.1, hb1.2, hns⟩ fun m hm p => hb2 ⟨m, hm, p⟩
              · obtain ⟨o, ho⟩ := hN x hx
                exact ⟨o, s06 _ _ ho⟩
    · rw [swRow_no hs] at q
      exact q _ s1
theorem ok_Needed___init__ (T : Tx K mg) : OkM P w K mg base 1 "Needed" "__init__" ["self", "by"] (spNeeded K) := by
  refine OkM.mk' T.M_Needed___init__ T.F_Needed___init__ (fun _ _ _ _ _ _ us hl => match us, hl with | [_, _], _ => rfl) sc_Needed___init__ (fun vs H Q E h => ?_) (fun cdv A outer s H vs Q E hr h => ?_)
  · obtain ⟨x, v, rfl, hx, q⟩ := h
    rfl
  · obtain ⟨x, v, rfl, hx, q⟩ := h
    refine ⟨(tSeq (tDrop (tVeI K (tCons (tVar 0) (tCons (tC (.str "needed")) tNil))))
      (tOst K "by" (tVar 0) (tVar 1))), (pss_cons (ps_expr (pe_gateinit T.ND T.G_GateError (pa_cons (pv 0) (pa_cons pe_str pa_nil))))
      (pss_one (ps_ost (pv 0) (pv 1)))), ?_⟩
    walk_at "0"
    walk_at "p"
    refine w_veI ?_
    walk_at "g"
    refine ⟨x, He.ga K "Needed", [.str "needed"], rfl, by simp, T.ND.oex, hx, ?_⟩
    refine w_ost (w_var rfl (w_var rfl ⟨x, He.ga K "Needed", rfl, T.ND.oex, T.ND.by_, .inl ⟨hx, fun dx n1 n2 => q dx n1 n2⟩⟩))
theorem ok_Board_drop (T : Tx K mg) : OkM P w K mg base 3 "Board" "drop" ["self", "name"] (spBrdDrop K) := by
  refine OkM.mk' T.M_Board_drop T.F_Board_drop (fun _ _ _ _ _ _ us hl => match us, hl with | [_, _], _ => rfl) sc_Board_drop (fun vs H Q E h => ?_) (fun cdv A outer s H vs Q E hr h => ?_)
  · obtain ⟨b, L, N, t, past, vn, dn, rfl, hA, hvn, hfs, hN, hl, q⟩ := h
    rfl
  · obtain ⟨b, L, N, t, past, vn, dn, rfl, hA, hvn, hfs, hN, hl, q⟩ := h
    refine ⟨(tSeq (tDrop (tMeth (He.ga K "Board") "need_switch" (spBrdNeed K) [] E (tVar 0) (tCons (tVar 1) tNil)))
      (tSeq (tFor (iList K (tCB rSortDS (tCons (tFld K (tVar 0) "table") tNil))) (gName 2) (tIfS (tTest (tOp (rIn K false) (tVar 1) (tOp (rIxT K) (tDGet (tFld K (tVar 0) "table") (tVar 2)) (tC (.int 2))))) (tRzN K E (tVar 2)) tNext))
      (tSeq (tAsg (tCB rDictD (tCons (tFld K (tVar 0) "table") tNil)) (gName 3))
      (tSeq (tDrop (tDPop1 (tVar 3) (tVar 1)))
      (tDrop (tMeth (He.ga K "Board") "becomes" (spBrdBecomes K) [] E (tVar 0) (tCons (tVar 3) tNil))))))), (pss_cons (ps_expr (pe_m (ok_Board_need_switch T) T.C_Board hr (pnx (L2N.takes_of rfl rfl rfl rfl)) (pv 0) (pa_cons (pv 1) pa_nil)))
      (pss_cons (ps_for (passes_of rfl) rfl (pi_list (pe_callB (call_sortedD rfl) (by rfl) T.Z_sorted (by decide +kernel) (pa_cons (pe_fld (pv 0) rfl) pa_nil))) (pg_name (i := 2) sc_Board_drop.nd rfl (by first | exact Or.inl rfl | exact Or.inr rfl)) (pss_one (ps_if (pt_cmpR op_in_seq (pv 1) (pe_ix ix_tup (pe_dget (hu1 hr) (pe_fld (pv 0) rfl) (pv 2) (fun _ _ => rfl)) pe_int (fun _ _ => rfl)) (by rfl)) (pss_one (ps_rzM T.ND (ok_Needed___init__ T) hr T.G_Needed pn0 (L2N.takes_of rfl rfl rfl rfl) (pv 2))) pss_nil)))
      (pss_cons (ps_set (i := 3) sc_Board_drop.nd rfl (by first | exact Or.inl rfl | exact Or.inr rfl) (pe_callTy call_dictD (by rfl) T.Z_dict (by decide +kernel) (pa_cons (pe_fld (pv 0) rfl) pa_nil)))
      (pss_cons (ps_expr (pe_dpop1 (pv 3) (pv 1) ⟨by rfl, by rfl, by rfl, by rfl⟩))
      (pss_one (ps_expr (pe_m (ok_Board_becomes T) T.C_Board hr (pnx (L2N.takes_of rfl rfl rfl rfl)) (pv 0) (pa_cons (pv 3) pa_nil)))))))), ?_⟩
    walk_at "0"
    obtain ⟨dx, d, ds, hb, hd, hL, hp⟩ := hA.ex
    obtain ⟨kvs, hk, hr2⟩ := hd.ex
    unfold dropR at q
    walk_at "p"
    refine w_meth (w_var rfl ⟨b, dx, _, rfl, hb, rfl, ?_⟩)
    walk_at "g"
    refine ⟨b, L, N, t, past, vn, dn, rfl, hA, hvn, hfs, fun hs H1 s1 => ?_, fun hs H1 s1 => ?_⟩
    · obtain ⟨z, r, rfl, er, ew⟩ := swRow_is hs
      rw [ew] at q
      simp only at q
      cases dp_str hvn
      walk_at "g"
      refine w_tfld (w_var rfl ⟨b, _, dx, _, .ref d, rfl, s1 _ _ hb, T.C_Board, T.N_Board_table, rfl, ?_⟩)
      walk_at "g"
      refine w_sortT (.inl (s1 _ _ hk)) (hr2.s s1) hA.ok.len fun ys F H2 y s2 nF hF => ?_
      rw [srtL_eq hA.ok y] at q
      have s02 := s1.trans s2
      refine ⟨F, rfl, ⟨_, lstOf hF⟩, ?_⟩
      refine for_go (walk_list (K := K) (a := F) (xs := ys.map V.str)) (fun i σ H' => (∃ x2 x3, σ = [some (.ref b), some (.str z), x2, x3]) ∧ Same H2 H' ∧ ∀ o ∈ ys.take i, needIn t z o = false) ⟨⟨_, _, rfl⟩, Same.refl _, by simp⟩ (fun i σ H' _ x => lstOf (x.2.1 _ _ hF)) ?_ ?_
      · rintro i x σ H' H'' hi ⟨⟨x2, x3, rfl⟩, s3, hno⟩ ⟨rfl, hxi⟩
        rw [List.getElem?_map] at hxi
        obtain ⟨o, ho, rfl⟩ := Option.map_eq_some_iff.mp hxi
        obtain ⟨s, es⟩ := rowOf_some.mpr (y.mem.mp (List.mem_of_getElem? ho))
        obtain ⟨u, eu, hu⟩ := hr2.val es
        have s03 := s02.trans s3
        walk_at "p"
        walk_at "g"
        refine w_dget (w_tfld (w_var rfl ⟨b, _, dx, _, .ref d, rfl, s03 _ _ hb, T.C_Board, T.N_Board_table, rfl, w_var rfl ?_⟩))
        refine a_dgetS (.inl (s03 _ _ hk)) eu ?_
        walk_at "g"
        refine w_ixD2 (show Dp K _ u (.tuple [s.deal, s.rules, .tuple (s.needs.map PyData.str), .bool s.dim]) from dp_s s03 hu) fun u3 h3 => ?_
        cases h3 with
        | tup hn ht =>
        cases strs_dps ht
        refine w_inT hn rfl (flat_strs s.needs) ?_
        rw [inV_strs]
        have e : needIn t z o = decide (z ∈ s.needs) := by
          unfold needIn
          rw [es]
        rw [← e]
        walk_at "g"
        refine if_b (fun hb1 => ?_) (fun hb1 => ?_)
        · rw [find_first ho hno hb1] at q
          exact w_rzN rfl fun dx' n1 => q dx' _ s03 n1
        · have hb1 : needIn t z o = false := by simpa using hb1
          walk_at "g"
          refine ⟨⟨_, _, rfl⟩, s3, fun o' ho' => ?_⟩
          rw [List.take_add_one, ho] at ho'
          rcases List.mem_append.mp ho' with h | h
          · exact hno o' h
          · have : o' = o := by simpa using h
            rw [this]
            exact hb1
      · rintro σ H' ⟨⟨x2, x3, rfl⟩, s3, hno⟩
        rw [List.length_map, List.take_of_length_le (Nat.le_refl _)] at hno
        rw [List.find?_eq_none.mpr fun o ho => by rw [hno o ho]; simp] at q
        have s03 := s02.trans s3
        walk_at "g"
        refine w_tfld (w_var rfl ⟨b, _, dx, _, .ref d, rfl, s03 _ _ hb, T.C_Board, T.N_Board_table, rfl, ?_⟩)
        walk_at "g"
        refine w_dictD (.inl (s03 _ _ hk)) fun p H4 s4 np hp4 => ?_
        have s04 := s03.trans s4
        have np0 : H p = none := s03.free np
        obtain ⟨u, eu, hu⟩ := hr2.val er
        walk_at "p"
        refine w_dpop1 (w_var rfl ⟨p, rfl, .inl ⟨_, .inl hp4⟩, w_var rfl ⟨kvs, .inr z, u, hp4, rfl, eu, ?_⟩⟩)
        have s5 : Same H (upd H4 p (.dK (dropK kvs (.inr z)))) := same_put s04 np0
        have ok' : TabOk (dropT t z) := hA.ok.drop fun n s en hz => by
          have := hno n (y.mem.mpr (rowOf_mem en))
          unfold needIn at this
          rw [en] at this
          exact of_decide_eq_false this hz
        have hD : DicAt K N (upd H4 p (.dK (dropK kvs (.inr z)))) p (dropT t z) := by
          refine ⟨fun hn => ?_, _, upd_same, (hr2.s s5).drop⟩
          obtain ⟨o, ho⟩ := hN p hn
          rw [np0] at ho
          cases ho
        walk_at "p"
        refine w_meth (w_var rfl ⟨b, dx, _, rfl, s5 _ _ hb, rfl, ?_⟩)
        walk_at "g"
        exact ⟨b, L, N, t, past, p, dropT t z, rfl, hA.s s5, hD, ok', hl, fun H6 k6 hB => q H6 ((Bd.of s5).trans k6) hB⟩
    · rw [swRow_no hs] at q
      exact q _ s1
theorem ok__law_do (T : Tx K mg) (B : TLs base mg K tfS) : Ok P w K mg base 17 "_law_do" ["board", "deed"] (spLDo K tfS) := by
  refine Ok.mkL T.G__law_do T.F__law_do (fun _ _ _ _ _ _ us hl => match us, hl with | [_, _], _ => rfl) sc__law_do (fun vs H Q E h => ?_) (fun A outer s H vs Q E hr h => ?_)
  · obtain ⟨b, L, N, t, past, v, x, rfl, hA, hv, hx, hN, hl, hT, q⟩ := h
    rfl
  · obtain ⟨b, L, N, t, past, v, x, rfl, hA, hv, hx, hN, hl, hT, q⟩ := h
    refine ⟨(tSeq (tIfS (tTest (tOp rEq (tOp (rIxT K) (tVar 1) (tC (.int 0))) (tC (.str "put")))) (tRet (LamX.tLam (tabL K tfS) (toldT K) fun E => (tMeth (He.ga K "Board") "put" (spBrdPut K) [] E (tVar 0) (tCons (tOp (rIxT K) (tVar 1) (tC (.int 1))) (tCons (tOp (rIxT K) (tVar 1) (tC (.int 2))) (tCons (tOp (rIxT K) (tVar 1) (tC (.int 3))) tNil)))))) tNext)
      (tSeq (tIfS (tTest (tOp rEq (tOp (rIxT K) (tVar 1) (tC (.int 0))) (tC (.str "rule")))) (tRet (LamX.tLam (tabL K tfS) (toldT K) fun E => (tMeth (He.ga K "Board") "rule" (spBrdRule K) [] E (tVar 0) (tCons (tOp (rIxT K) (tVar 1) (tC (.int 1))) (tCons (tOp (rIxT K) (tVar 1) (tC (.int 2))) tNil))))) tNext)
      (tSeq (tIfS (tTest (tOp rEq (tOp (rIxT K) (tVar 1) (tC (.int 0))) (tC (.str "need")))) (tRet (LamX.tLam (tabL K tfS) (toldT K) fun E => (tMeth (He.ga K "Board") "need" (spBrdNeeds K) [] E (tVar 0) (tCons (tOp (rIxT K) (tVar 1) (tC (.int 1))) (tCons (tOp (rIxT K) (tVar 1) (tC (.int 2))) tNil))))) tNext)
      (tSeq (tIfS (tTest (tOp rEq (tOp (rIxT K) (tVar 1) (tC (.int 0))) (tC (.str "drop")))) (tRet (LamX.tLam (tabL K tfS) (toldT K) fun E => (tMeth (He.ga K "Board") "drop" (spBrdDrop K) [] E (tVar 0) (tCons (tOp (rIxT K) (tVar 1) (tC (.int 1))) tNil)))) tNext)
      (tSeq (tIfS (tB (tOp (rIxT K) (tVar 1) (tC (.int 2)))) (tRet (LamX.tLam (tabL K tfS) (toldT K) fun E => (tMeth (He.ga K "Board") "dark" (spBrdDark K) [.bl true] E (tVar 0) (tCons (tOp (rIxT K) (tVar 1) (tC (.int 1))) tNil)))) tNext)
      (tRet (LamX.tLam (tabL K tfS) (toldT K) fun E => (tMethN (He.ga K "Board") "dark" 2 (spBrdDark K) E (tVar 0) (tCons (tOp (rIxT K) (tVar 1) (tC (.int 1))) tNil) (tCons (tC (.bl false)) tNil))))))))), (pss_cons (ps_if (pt_cmpR op_eq (pe_ix ix_tup (pv 1) pe_int (fun _ _ => rfl)) pe_str (nomark _)) (pss_one (ps_ret (pe_told (x := "_law_do") T B (by simp) rfl rfl hr (LamX.lamS_by (sc := defScope s__law_do) (by decide +kernel)) rfl (fun _ _ _ _ _ => rfl) (fun _ _ _ _ _ _ _ hr => (pe_m (ok_Board_put T) T.C_Board hr (pnx (L2N.takes_of rfl rfl rfl rfl)) (pv 0) (pa_cons (pe_ix ix_tup (pv 1) pe_int (fun _ _ => rfl)) (pa_cons (pe_ix ix_tup (pv 1) pe_int (fun _ _ => rfl)) (pa_cons (pe_ix ix_tup (pv 1) pe_int (fun _ _ => rfl)) pa_nil)))))))) pss_nil)
      (pss_cons (ps_if (pt_cmpR op_eq (pe_ix ix_tup (pv 1) pe_int (fun _ _ => rfl)) pe_str (nomark _)) (pss_one (ps_ret (pe_told (x := "_law_do") T B (by simp) rfl rfl hr (LamX.lamS_by (sc := defScope s__law_do) (by decide +kernel)) rfl (fun _ _ _ _ _ => rfl) (fun _ _ _ _ _ _ _ hr => (pe_m (ok_Board_rule T) T.C_Board hr (pnx (L2N.takes_of rfl rfl rfl rfl)) (pv 0) (pa_cons (pe_ix ix_tup (pv 1) pe_int (fun _ _ => rfl)) (pa_cons (pe_ix ix_tup (pv 1) pe_int (fun _ _ => rfl)) pa_nil))))))) pss_nil)
      (pss_cons (ps_if (pt_cmpR op_eq (pe_ix ix_tup (pv 1) pe_int (fun _ _ => rfl)) pe_str (nomark _)) (pss_one (ps_ret (pe_told (x := "_law_do") T B (by simp) rfl rfl hr (LamX.lamS_by (sc := defScope s__law_do) (by decide +kernel)) rfl (fun _ _ _ _ _ => rfl) (fun _ _ _ _ _ _ _ hr => (pe_m (ok_Board_need T) T.C_Board hr (pnx (L2N.takes_of rfl rfl rfl rfl)) (pv 0) (pa_cons (pe_ix ix_tup (pv 1) pe_int (fun _ _ => rfl)) (pa_cons (pe_ix ix_tup (pv 1) pe_int (fun _ _ => rfl)) pa_nil))))))) pss_nil)
      (pss_cons (ps_if (pt_cmpR op_eq (pe_ix ix_tup (pv 1) pe_int (fun _ _ => rfl)) pe_str (nomark _)) (pss_one (ps_ret (pe_told (x := "_law_do") T B (by simp) rfl rfl hr (LamX.lamS_by (sc := defScope s__law_do) (by decide +kernel)) rfl (fun _ _ _ _ _ => rfl) (fun _ _ _ _ _ _ _ hr => (pe_m (ok_Board_drop T) T.C_Board hr (pnx (L2N.takes_of rfl rfl rfl rfl)) (pv 0) (pa_cons (pe_ix ix_tup (pv 1) pe_int (fun _ _ => rfl)) pa_nil)))))) pss_nil)
      (pss_cons (ps_if (pt_val (pe_ix ix_tup (pv 1) pe_int (fun _ _ => rfl))) (pss_one (ps_ret (pe_told (x := "_law_do") T B (by simp) rfl rfl hr (LamX.lamS_by (sc := defScope s__law_do) (by decide +kernel)) rfl (fun _ _ _ _ _ => rfl) (fun _ _ _ _ _ _ _ hr => (pe_md1 (ok_Board_dark T) T.C_Board hr (pnx (L2N.takes_of rfl rfl rfl rfl)) (pv 0) (pa_cons (pe_ix ix_tup (pv 1) pe_int (fun _ _ => rfl)) pa_nil)))))) pss_nil)
      (pss_one (ps_ret (pe_told (x := "_law_do") T B (by simp) rfl rfl hr (LamX.lamS_by (sc := defScope s__law_do) (by decide +kernel)) rfl (fun _ _ _ _ _ => rfl) (fun _ _ _ _ _ _ _ hr => (pe_mdk (ok_Board_dark T) T.C_Board hr (pnx (L2N.takes_of rfl rfl rfl rfl)) (pv 0) (pa_cons (pe_ix ix_tup (pv 1) pe_int (fun _ _ => rfl)) pa_nil) (pk_cons pe_bl pk_nil))))))))))), ?_⟩
    walk_at "0"
    have hTB := hT
    cases x with
    | put z dl rs =>
      have hv : Dp K H v (.tuple [.str "put", .str z, dl, .tuple rs]) := hv
      walk_at "g"
      refine w_ixD0 hv fun u0 h0 => ?_
      cases dp_str h0
      walk_at "g"
      refine w_lam hT fun H1 e1 => ?_
      have hA1 := hA.eT e1
      obtain ⟨dx, d, ds, hb, _⟩ := hA1.ex
      refine w_meth (w_var rfl ⟨b, dx, _, rfl, hb, rfl, ?_⟩)
      walk_at "g"
      refine w_ixD1 (dp_eT e1 hv) fun u1 h1 => ?_
      cases dp_str h1
      walk_at "g"
      refine w_ixD2 (dp_eT e1 hv) fun u2 h2 => ?_
      walk_at "g"
      refine w_ixD (j := 3) (dp_eT e1 hv) rfl fun u3 h3 => ?_
      walk_at "g"
      exact ⟨b, L, N, t, past, .str z, .str z, u2, dl, u3, .tuple rs, rfl, hA1, .str z, fitB hx.1, h2, h3, hx.2.2.ok, fun _ => by simp only [imm]; exact hx.2.2.imm, (hN.eT e1).ex, hl, bq_told e1 hA1 (r := dueR t (.put z dl rs)) due_good q⟩
    | rule z rs =>
      have hv : Dp K H v (.tuple [.str "rule", .str z, .tuple rs]) := hv
      walk_at "g"
      refine w_ixD0 hv fun u0 h0 => ?_
      cases dp_str h0
      walk_at "g"
      refine w_ixD0 hv fun u0 h0 => ?_
      cases dp_str h0
      walk_at "g"
      refine w_lam hT fun H1 e1 => ?_
      have hA1 := hA.eT e1
      obtain ⟨dx, d, ds, hb, _⟩ := hA1.ex
      refine w_meth (w_var rfl ⟨b, dx, _, rfl, hb, rfl, ?_⟩)
      walk_at "g"
      refine w_ixD1 (dp_eT e1 hv) fun u1 h1 => ?_
      cases dp_str h1
      walk_at "g"
      refine w_ixD2 (dp_eT e1 hv) fun u2 h2 => ?_
      walk_at "g"
      exact ⟨b, L, N, t, past, .str z, .str z, u2, .tuple rs, rfl, hA1, .str z, fitB hx.1, h2, hx.2.ok, fun _ => by simp only [imm]; exact hx.2.imm, (hN.eT e1).ex, hl, bq_told e1 hA1 (r := dueR t (.rule z rs)) due_good q⟩
    | need z ns =>
      have hv : Dp K H v (.tuple [.str "need", .str z, .tuple (ns.map PyData.str)]) := hv
      walk_at "g"
      refine w_ixD0 hv fun u0 h0 => ?_
      cases dp_str h0
      walk_at "g"
      refine w_ixD0 hv fun u0 h0 => ?_
      cases dp_str h0
      walk_at "g"
      refine w_ixD0 hv fun u0 h0 => ?_
      cases dp_str h0
      walk_at "g"
      refine w_lam hT fun H1 e1 => ?_
      have hA1 := hA.eT e1
      obtain ⟨dx, d, ds, hb, _⟩ := hA1.ex
      refine w_meth (w_var rfl ⟨b, dx, _, rfl, hb, rfl, ?_⟩)
      walk_at "g"
      refine w_ixD1 (dp_eT e1 hv) fun u1 h1 => ?_
      cases dp_str h1
      walk_at "g"
      refine w_ixD2 (dp_eT e1 hv) fun u2 h2 => ?_
      walk_at "g"
      have hfn : fitN (.tuple (ns.map PyData.str)) := by
        refine ⟨?_, fun e he => ?_⟩
        · have h3 := hx.2.2
          simp only [risT, Bool.and_eq_true, decide_eq_true_eq] at h3
          have := nodup_len h3.1 hx.2.1
          rw [len_names] at this
          have := hA.ok.len
          rw [List.length_map]
          omega
        · obtain ⟨m, hm, rfl⟩ := List.mem_map.mp he
          exact Nat.le_trans (name_len (hA.ok.nm m (hx.2.1 m hm))) (by decide)
      exact ⟨b, L, N, t, past, .str z, .str z, u2, _, rfl, hA1, .str z, fitB hx.1, h2, hfn, (hN.eT e1).ex, hl, bq_told e1 hA1 (r := dueR t (.need z ns)) due_good q⟩
    | drop z =>
      have hv : Dp K H v (.tuple [.str "drop", .str z]) := hv
      walk_at "g"
      refine w_ixD0 hv fun u0 h0 => ?_
      cases dp_str h0
      walk_at "g"
      refine w_ixD0 hv fun u0 h0 => ?_
      cases dp_str h0
      walk_at "g"
      refine w_ixD0 hv fun u0 h0 => ?_
      cases dp_str h0
      walk_at "g"
      refine w_ixD0 hv fun u0 h0 => ?_
      cases dp_str h0
      walk_at "g"
      refine w_lam hT fun H1 e1 => ?_
      have hA1 := hA.eT e1
      obtain ⟨dx, d, ds, hb, _⟩ := hA1.ex
      refine w_meth (w_var rfl ⟨b, dx, _, rfl, hb, rfl, ?_⟩)
      walk_at "g"
      refine w_ixD1 (dp_eT e1 hv) fun u1 h1 => ?_
      cases dp_str h1
      walk_at "g"
      exact ⟨b, L, N, t, past, .str z, .str z, rfl, hA1, .str z, fitB hx, (hN.eT e1).ex, hl, bq_told e1 hA1 (r := dueR t (.drop z)) due_good q⟩
    | dark z x =>
      have hv : Dp K H v (.tuple [.str "dark", .str z, .bool x]) := hv
      walk_at "g"
      refine w_ixD0 hv fun u0 h0 => ?_
      cases dp_str h0
      walk_at "g"
      refine w_ixD0 hv fun u0 h0 => ?_
      cases dp_str h0
      walk_at "g"
      refine w_ixD0 hv fun u0 h0 => ?_
      cases dp_str h0
      walk_at "g"
      refine w_ixD0 hv fun u0 h0 => ?_
      cases dp_str h0
      walk_at "g"
      refine w_ixD2 hv fun u2 h2 => ?_
      cases dp_blB h2
      walk_at "g"
      cases x with
      | true =>
        walk_at "g"
        refine w_lam hT fun H1 e1 => ?_
        have hA1 := hA.eT e1
        obtain ⟨dx, d, ds, hb, _⟩ := hA1.ex
        refine w_methD (w_var rfl ⟨b, dx, _, rfl, hb, rfl, ?_⟩)
        walk_at "g"
        refine w_ixD1 (dp_eT e1 hv) fun u1 h1 => ?_
        cases dp_str h1
        walk_at "g"
        exact ⟨b, L, N, t, past, .str z, .str z, .bl true, .bool true, rfl, hA1, .str z, fitB hx, .bl _, (hN.eT e1).ex, hl, bq_told e1 hA1 (r := dueR t (.dark z true)) due_good q⟩
      | false =>
        walk_at "g"
        refine w_lam hT fun H1 e1 => ?_
        have hA1 := hA.eT e1
        obtain ⟨dx, d, ds, hb, _⟩ := hA1.ex
        refine w_methN (w_var rfl ⟨b, dx, _, rfl, hb, rfl, ?_⟩)
        walk_at "g"
        refine w_ixD1 (dp_eT e1 hv) fun u1 h1 => ?_
        cases dp_str h1
        walk_at "g"
        refine ⟨rfl, rfl, ?_⟩
        exact ⟨b, L, N, t, past, .str z, .str z, .bl false, .bool false, rfl, hA1, .str z, fitB hx, .bl _, (hN.eT e1).ex, hl, bq_told e1 hA1 (r := dueR t (.dark z false)) due_good q⟩
theorem ok__law_reach (T : Tx K mg) : Ok P w K mg base 1 "_law_reach" ["table", "names"] (spLReach K) := by
  refine Ok.mk' T.G__law_reach T.F__law_reach (fun _ _ _ _ _ _ us hl => match us, hl with | [_, _], _ => rfl) sc__law_reach (fun vs H Q E h => ?_) (fun cdv A outer s H vs Q E hr h => ?_)
  · obtain ⟨b, t, a, ns, rfl, hA, ok, ha, hl, hm, q⟩ := h
    rfl
  · obtain ⟨b, t, a, ns, rfl, hA, ok, ha, hl, hm, q⟩ := h
    refine ⟨(tSeq (tPar 2 3 (tCons (tLst tNil) (tCons (tCB (cList K) (tCons (tVar 1) tNil)) tNil)))
      (tSeq (tWhile (tTest (tOp (rNeD K) (tVar 3) (tLst tNil))) (tSeq (tAsg (tBM0 K "list" rPop (tVar 3)) (gName 4))
      (tIfS (tTest (tOp (rIn K true) (tVar 4) (tVar 2))) (tSeq (tDrop (tBM K "list" rAppend (tVar 2) (tCons (tVar 4) tNil)))
      (tAsg (tOp rCat (tVar 3) (tCB (cList K) (tCons (tOp (rIxT K) (tDGet (tVar 0) (tVar 4)) (tC (.int 2))) tNil))) (gName 3))) tNext)))
      (tRet (tCB (rSortedS K) (tCons (tVar 2) tNil))))), (pss_cons (ps_par (by rfl) sc__law_reach.nd rfl rfl (by decide) rfl rfl (pa_cons (pe_lst pa_nil) (pa_cons (pe_callTy call_list_of (by rfl) T.Z_list (by decide +kernel) (pa_cons (pv 1) pa_nil)) pa_nil)) (by rfl))
      (pss_cons (ps_while (passes_of rfl) (pt_cmpR (op_neD hr.units) (pv 3) (pe_lst pa_nil) (nomark _)) (pss_cons (ps_set (i := 4) sc__law_reach.nd rfl (by first | exact Or.inl rfl | exact Or.inr rfl) (pe_bm0 PySem.F.plainAttrs_list PySem.F.slot_list_pop PySem.F.type_list_pop mt_pop (pv 3)))
      (pss_one (ps_if (pt_cmpR op_notIn_seq (pv 4) (pv 2) (by rfl)) (pss_cons (ps_expr (pe_bm PySem.F.plainAttrs_list PySem.F.slot_list_append PySem.F.type_list_append mt_append (pv 2) (pa_cons (pv 4) pa_nil)))
      (pss_one (ps_set (i := 3) sc__law_reach.nd rfl (by first | exact Or.inl rfl | exact Or.inr rfl) (pe_op op_cat (pv 3) (pe_callTy call_list_of (by rfl) T.Z_list (by decide +kernel) (pa_cons (pe_ix ix_tup (pe_dget (hu1 hr) (pv 0) (pv 4) (fun _ _ => rfl)) pe_int (fun _ _ => rfl)) pa_nil)))))) pss_nil))))
      (pss_one (ps_ret (pe_callB cr_sortedS (by rfl) T.Z_sorted (by decide +kernel) (pa_cons (pv 2) pa_nil)))))), ?_⟩
    walk_at "0"
    obtain ⟨kvs, hk, hr2⟩ := hA
    walk_at "g"
    refine w_newL (by simp) fun F H1 s1 nF hF => ?_
    walk_at "g"
    have ha1 : SqL K H1 a (ns.map V.str) ∨ SqT K H1 a (ns.map V.str) := ha.imp (fun z => s1.seq z) fun z => RG.Same.tup s1 z
    refine ⟨a, ns.map V.str, rfl, ha1, fun Td nTd => ?_⟩
    have sT : Same H1 (upd H1 Td (.lst (ns.map V.str))) := Same.new nTd
    have hFT : F ≠ Td := fun z => by rw [← z, hF] at nTd; cases nTd
    have hw := wt_le ok
    walk_at "g"
    refine w_while (fun m σ H' => ∃ Td fl td x4, σ = [some (.ref b), some (.ref a), some (.ref F), some (.ref Td), x4] ∧ m = td.length + wtT fl t ∧ m ≤ 300 ∧ Same H H' ∧ H Td = none ∧ F ≠ Td ∧ H' F = some (.lst (fl.map V.str)) ∧ H' Td = some (.lst (td.map V.str)) ∧ RcI t ns fl td) (m0 := ns.length + wtT [] t) ⟨Td, [], ns, _, rfl, rfl, by omega, s1.trans sT, s1.free nTd, hFT, sT _ _ hF, upd_same, rcI_start hm⟩ ?_
    rintro m σ H' ⟨Td, fl, td, x4, rfl, rfl, hm3, s2, nT, hFT, hF2, hT2, hI⟩
    walk_at "g"
    refine w_newL (by simp) fun E0 H3 s3 nE hE => ?_
    have hnT : ∀ z ∈ td, isName (.str z) = true := fun z hz => ok.nm z (hI.mt z hz)
    refine w_neD (d := .list (td.map PyData.str)) (e := .list []) (.lst (lstOf (s3 _ _ hT2)) (dps_strsB td)) (.lst (lstOf hE) .nil) (gd_namesL hnT (by omega)).sh rfl ?_
    rw [eqv_strsNil]
    have hF3 := s3 _ _ hF2
    have hT3 := s3 _ _ hT2
    refine ⟨_, rfl, ?_⟩
    refine if_b (fun hb0 => ?_) (fun hb0 => ?_)
    · have hne : td ≠ [] := by simpa using hb0
      obtain ⟨td0, x, rfl⟩ : ∃ td0 x, td = td0 ++ [x] := ⟨td.dropLast, td.getLast hne, (List.dropLast_concat_getLast hne).symm⟩
      refine ⟨fun σ' H' => ∃ m', m' < (td0 ++ [x]).length + wtT fl t ∧ ∃ Td fl td x4, σ' = [some (.ref b), some (.ref a), some (.ref F), some (.ref Td), x4] ∧ m' = td.length + wtT fl t ∧ m' ≤ 300 ∧ Same H H' ∧ H Td = none ∧ F ≠ Td ∧ H' F = some (.lst (fl.map V.str)) ∧ H' Td = some (.lst (td.map V.str)) ∧ RcI t ns fl td, fun _ _ h => h, ?_⟩
      walk_at "p"
      refine w_bm0 (w_var rfl ⟨tyL hT3, Td, _, .str x, rfl, rfl, hT3, by simp, ?_⟩)
      have s4 : Same H (upd H3 Td (.lst ((td0 ++ [x]).map V.str).dropLast)) := same_put (s2.trans s3) nT
      have eT : ((td0 ++ [x]).map V.str).dropLast = td0.map V.str := by simp
      rw [eT] at s4 ⊢
      rw [List.length_append, List.length_singleton] at hm3 ⊢
      walk_at "g"
      have hF4 : (upd H3 Td (.lst (td0.map V.str))) F = some (.lst (fl.map V.str)) := by rw [upd_ne hFT]; exact hF3
      refine w_ninL (lstOf hF4) rfl (flat_strs fl) ?_
      rw [inV_strs]
      walk_at "g"
      refine if_b (fun hx => ?_) (fun hx => ?_)
      · have hx : x ∉ fl := by simpa using hx
        obtain ⟨r, er⟩ := rowOf_some.mpr (hI.mt x (by simp))
        obtain ⟨u, eu, hu⟩ := hr2.val er
        have hfl : fl.length ≤ 12 := by
          have := nodup_len hI.nd hI.mf
          rw [len_names] at this
          have := ok.len
          omega
        have hwa := wt_add hx ok.nd er
        walk_at "p"
        refine w_bm (w_var rfl ⟨tyL hF4, ?_⟩)
        walk_at "g"
        refine w_app hF4 (by rw [List.length_map]; omega) ?_
        have eF : fl.map V.str ++ [.str x] = (fl ++ [x]).map V.str := by simp
        rw [eF]
        have s5 : Same H (upd (upd H3 Td (.lst (td0.map V.str))) F (.lst ((fl ++ [x]).map V.str))) := same_put s4 nF
        have hT5 : (upd (upd H3 Td (.lst (td0.map V.str))) F (.lst ((fl ++ [x]).map V.str))) Td = some (.lst (td0.map V.str)) := by rw [upd_ne hFT.symm, upd_same]
        walk_at "g"
        refine w_dget (w_var rfl (w_var rfl ?_))
        refine a_dgetS (rd_s s5 hk) eu ?_
        walk_at "g"
        refine w_ixD2 (show Dp K _ u (.tuple [r.deal, r.rules, .tuple (r.needs.map PyData.str), .bool r.dim]) from dp_s s5 hu) fun u3 h3 => ?_
        cases h3 with
        | tup hn ht =>
        cases strs_dps ht
        walk_at "g"
        refine ⟨_, _, rfl, .inr hn, fun C nC => ?_⟩
        have hCT : Td ≠ C := fun z => by rw [← z, hT5] at nC; cases nC
        refine w_catN (by rw [upd_ne hCT]; exact hT5) upd_same (by simp; omega) fun G H7 s7 nG hG => ?_
        have s67 := (Same.new nC (o := .lst (r.needs.map V.str))).trans s7
        have hF7 : H7 F = some (.lst ((fl ++ [x]).map V.str)) := s67 _ _ upd_same
        have nG0 : H G = none := by
          cases e : H G with
          | none => rfl
          | some o =>
            have := (Same.new nC (o := .lst (r.needs.map V.str))) _ _ (s5 _ _ e)
            rw [nG] at this
            cases this
        have hFG : F ≠ G := fun z => by
          have := (Same.new nC (o := .lst (r.needs.map V.str))) F _ upd_same
          rw [← z, this] at nG
          cases nG
        walk_at "g"
        exact ⟨(td0 ++ r.needs).length + wtT (fl ++ [x]) t, by rw [List.length_append]; omega, G, fl ++ [x], td0 ++ r.needs, _, rfl, rfl, by rw [List.length_append]; omega, s5.trans s67, nG0, hFG, hF7, by rw [hG, List.map_append], rcI_take ok hI hx er⟩
      · have hx : x ∈ fl := by simpa using hx
        walk_at "g"
        exact ⟨td0.length + wtT fl t, by omega, Td, fl, td0, _, rfl, rfl, by omega, s4, nT, hFT, hF4, upd_same, rcI_skip hI hx⟩
    · have hnil : td = [] := by simpa using hb0
      subst hnil
      have hfl : fl.length ≤ 12 := by
        have := nodup_len hI.nd hI.mf
        rw [len_names] at this
        have := ok.len
        omega
      walk_at "g"
      exact ⟨F, fl, rfl, lstOf hF3, by omega, fun ys p pm srt np => q ys p _ ((s2.trans s3).trans (Same.new np)) ((s2.trans s3).free np) upd_same (rcI_end hI pm srt)⟩
theorem ok__law_due (T : Tx K mg) : Ok P w K mg base 2 "_law_due" ["table", "deed"] (spLDue K) := by
  refine Ok.mk' T.G__law_due T.F__law_due (fun _ _ _ _ _ _ us hl => match us, hl with | [_, _], _ => rfl) sc__law_due (fun vs H Q E h => ?_) (fun cdv A outer s H vs Q E hr h => ?_)
  · obtain ⟨Tb, v, t, x, rfl, hX, ok, t5, hv, hx, q⟩ := h
    rfl
  · obtain ⟨Tb, v, t, x, rfl, hX, ok, t5, hv, hx, q⟩ := h
    refine ⟨(tSeq (tAsg (tOp (rIxT K) (tVar 1) (tC (.int 1))) (gName 2))
      (tSeq (tIfS (tTest (tOp rEq (tOp (rIxT K) (tVar 1) (tC (.int 0))) (tC (.str "put")))) (tSeq (tIfS (tB (tDIn (tVar 2) (tVar 0))) (tRet (tTup (tCons (tC (.str "refused")) (tCons (tC (.str "Known")) tNil)))) tNext)
      (tSeq (sDPut (tVar 0) (tVar 2) (tTup (tCons (tOp (rIxT K) (tVar 1) (tC (.int 2))) (tCons (tOp (rIxT K) (tVar 1) (tC (.int 3))) (tCons (tTup tNil) (tCons (tC (.bl false)) tNil))))))
      (tRet (tC .non)))) tNext)
      (tSeq (tIfS (tB (tDNotIn (tVar 2) (tVar 0))) (tRet (tTup (tCons (tC (.str "refused")) (tCons (tC (.str "BadName")) tNil)))) tNext)
      (tSeq (tAsg (tDGet (tVar 0) (tVar 2)) (gTup K 4 (gCons (gName 3) (gCons (gName 4) (gCons (gName 5) (gCons (gName 6) gNil))))))
      (tSeq (tIfS (tTest (tOp rEq (tOp (rIxT K) (tVar 1) (tC (.int 0))) (tC (.str "rule")))) (sDPut (tVar 0) (tVar 2) (tTup (tCons (tVar 3) (tCons (tOp (rIxT K) (tVar 1) (tC (.int 2))) (tCons (tVar 5) (tCons (tVar 6) tNil)))))) tNext)
      (tSeq (tIfS (tTest (tOp rEq (tOp (rIxT K) (tVar 1) (tC (.int 0))) (tC (.str "need")))) (tSeq (tIfS (tTest (tOp (rIn K false) (tVar 2) (tCall (spLReach K) [] E (tCons (tVar 0) (tCons (tOp (rIxT K) (tVar 1) (tC (.int 2))) tNil))))) (tRet (tTup (tCons (tC (.str "refused")) (tCons (tC (.str "Ring")) tNil)))) tNext)
      (sDPut (tVar 0) (tVar 2) (tTup (tCons (tVar 3) (tCons (tVar 4) (tCons (tOp (rIxT K) (tVar 1) (tC (.int 2))) (tCons (tVar 6) tNil))))))) tNext)
      (tSeq (tIfS (tTest (tOp rEq (tOp (rIxT K) (tVar 1) (tC (.int 0))) (tC (.str "dark")))) (sDPut (tVar 0) (tVar 2) (tTup (tCons (tVar 3) (tCons (tVar 4) (tCons (tVar 5) (tCons (tOp (rIxT K) (tVar 1) (tC (.int 2))) tNil)))))) tNext)
      (tSeq (tIfS (tTest (tOp rEq (tOp (rIxT K) (tVar 1) (tC (.int 0))) (tC (.str "drop")))) (tSeq (tAsg (tLc (iList K (tCB rSortDS (tCons (tVar 0) tNil))) (gName 7) (tTest (tOp (rIn K false) (tVar 2) (tOp (rIxT K) (tDGet (tVar 0) (tVar 7)) (tC (.int 2))))) (tVar 7) [7]) (gName 8))
      (tSeq (tIfS (tTest (tOp (rNeD K) (tVar 8) (tLst tNil))) (tRet (tTup (tCons (tC (.str "refused")) (tCons (tC (.str "Needed")) (tCons (tOp (rIxL K) (tVar 8) (tC (.int 0))) tNil))))) tNext)
      (tDrop (tDPop1 (tVar 0) (tVar 2))))) tNext)
      (tRet (tC .non)))))))))), (pss_cons (ps_set (i := 2) sc__law_due.nd rfl (by first | exact Or.inl rfl | exact Or.inr rfl) (pe_ix ix_tup (pv 1) pe_int (fun _ _ => rfl)))
      (pss_cons (ps_if (pt_cmpR op_eq (pe_ix ix_tup (pv 1) pe_int (fun _ _ => rfl)) pe_str (nomark _)) (pss_cons (ps_if (pt_cmp (pc_din (hu1 hr) (pv 2) (pv 0))) (pss_one (ps_ret (pe_tup (pa_cons pe_str (pa_cons pe_str pa_nil))))) pss_nil)
      (pss_cons (ps_dput (hu1 hr) (pv 0) (pv 2) (pe_tup (pa_cons (pe_ix ix_tup (pv 1) pe_int (fun _ _ => rfl)) (pa_cons (pe_ix ix_tup (pv 1) pe_int (fun _ _ => rfl)) (pa_cons (pe_tup pa_nil) (pa_cons pe_bl pa_nil))))) (by rfl))
      (pss_one (ps_ret pe_non)))) pss_nil)
      (pss_cons (ps_if (pt_cmp (pc_dnotin (hu1 hr) (pv 2) (pv 0))) (pss_one (ps_ret (pe_tup (pa_cons pe_str (pa_cons pe_str pa_nil))))) pss_nil)
      (pss_cons (ps_asg (pe_dget (hu1 hr) (pv 0) (pv 2) (fun _ _ => rfl)) (pg_tup (by rfl) (pgs_cons (pg_name (i := 3) sc__law_due.nd rfl (by first | exact Or.inl rfl | exact Or.inr rfl)) (pgs_cons (pg_name (i := 4) sc__law_due.nd rfl (by first | exact Or.inl rfl | exact Or.inr rfl)) (pgs_cons (pg_name (i := 5) sc__law_due.nd rfl (by first | exact Or.inl rfl | exact Or.inr rfl)) (pgs_cons (pg_name (i := 6) sc__law_due.nd rfl (by first | exact Or.inl rfl | exact Or.inr rfl)) pgs_nil))))))
      (pss_cons (ps_if (pt_cmpR op_eq (pe_ix ix_tup (pv 1) pe_int (fun _ _ => rfl)) pe_str (nomark _)) (pss_one (ps_dput (hu1 hr) (pv 0) (pv 2) (pe_tup (pa_cons (pv 3) (pa_cons (pe_ix ix_tup (pv 1) pe_int (fun _ _ => rfl)) (pa_cons (pv 5) (pa_cons (pv 6) pa_nil))))) (by rfl))) pss_nil)
      (pss_cons (ps_if (pt_cmpR op_eq (pe_ix ix_tup (pv 1) pe_int (fun _ _ => rfl)) pe_str (nomark _)) (pss_cons (ps_if (pt_cmpR op_in_seq (pv 2) (pe_f (ok__law_reach T) hr (pnx (L2N.takes_of rfl rfl rfl rfl)) (pa_cons (pv 0) (pa_cons (pe_ix ix_tup (pv 1) pe_int (fun _ _ => rfl)) pa_nil))) (by rfl)) (pss_one (ps_ret (pe_tup (pa_cons pe_str (pa_cons pe_str pa_nil))))) pss_nil)
      (pss_one (ps_dput (hu1 hr) (pv 0) (pv 2) (pe_tup (pa_cons (pv 3) (pa_cons (pv 4) (pa_cons (pe_ix ix_tup (pv 1) pe_int (fun _ _ => rfl)) (pa_cons (pv 6) pa_nil))))) (by rfl)))) pss_nil)
      (pss_cons (ps_if (pt_cmpR op_eq (pe_ix ix_tup (pv 1) pe_int (fun _ _ => rfl)) pe_str (nomark _)) (pss_one (ps_dput (hu1 hr) (pv 0) (pv 2) (pe_tup (pa_cons (pv 3) (pa_cons (pv 4) (pa_cons (pv 5) (pa_cons (pe_ix ix_tup (pv 1) pe_int (fun _ _ => rfl)) pa_nil))))) (by rfl))) pss_nil)
      (pss_cons (ps_if (pt_cmpR op_eq (pe_ix ix_tup (pv 1) pe_int (fun _ _ => rfl)) pe_str (nomark _)) (pss_cons (ps_setLc (i := 8) (own := [("other", 7)]) rfl sc__law_due.nd rfl rfl (sw_true rfl rfl rfl (by decide +kernel)) (pi_list (pe_callB (call_sortedD rfl) (by rfl) T.Z_sorted (by decide +kernel) (pa_cons (pv 0) pa_nil))) (blkOk_by (own := [("other", 7)]) (N := ["table", "deed", "name", "deal", "rules", "needs", "dim", "other", "some"]) (sc := defScope s__law_due) (by decide +kernel)) (fun _ _ _ _ _ => (pg_name (i := 7) sc__law_due.nd rfl (by first | exact Or.inl rfl | exact Or.inr rfl))) (fun _ _ _ _ _ => (pts_one (pt_cmpR op_in_seq (pv 2) (pe_ix ix_tup (pe_dget (hu1 hr) (pv 0) (pv 7) (fun _ _ => rfl)) pe_int (fun _ _ => rfl)) (by rfl)))) (fun _ _ _ _ _ => (pv 7)))
      (pss_cons (ps_if (pt_cmpR (op_neD hr.units) (pv 8) (pe_lst pa_nil) (nomark _)) (pss_one (ps_ret (pe_tup (pa_cons pe_str (pa_cons pe_str (pa_cons (pe_ix ix_list (pv 8) pe_int (fun _ _ => rfl)) pa_nil)))))) pss_nil)
      (pss_one (ps_expr (pe_dpop1 (pv 0) (pv 2) ⟨by rfl, by rfl, by rfl, by rfl⟩))))) pss_nil)
      (pss_one (ps_ret pe_non)))))))))), ?_⟩
    walk_at "0"
    obtain ⟨kvs, hk, hr2⟩ := hX
    have hlen : kvs.length < 100000 := by
      rw [hr2.len]
      have := ok.len
      omega
    cases x with
    | put z dl rs =>
      have hv : Dp K H v (.tuple [.str "put", .str z, dl, .tuple rs]) := hv
      rw [due_put ok t5 hx] at q
      walk_at "g"
      refine w_ixD1 hv fun u1 h1 => ?_
      cases dp_str h1
      walk_at "g"
      refine w_ixD0 hv fun u0 h0 => ?_
      cases dp_str h0
      walk_at "g"
      refine w_din (w_var rfl (w_var rfl ?_))
      refine a_dinS (.inl hk) ?_
      rw [hr2.isIn]
      walk_at "g"
      refine if_b (fun hz => ?_) (fun hz => ?_)
      · have hz := of_decide_eq_true hz
        rw [if_pos hz] at q
        walk_at "g"
        refine w_newT (by simp) fun p2 H2 s2 np hp2 => ?_
        exact q _ _ (oth_of s2) ⟨kvs, s2 _ _ hk, hr2.s s2⟩ (refD_dp hp2)
      · have hz := of_decide_eq_false hz
        rw [if_neg hz] at q
        walk_at "p"
        refine w_dput ?_
        walk_at "g"
        refine w_ixD2 hv fun u2 h2 => ?_
        walk_at "g"
        refine w_ixD (j := 3) hv rfl fun u3 h3 => ?_
        walk_at "g"
        refine w_newT (by simp) fun p1 H1 s1 np1 hp1 => ?_
        walk_at "g"
        refine w_newT (by simp) fun p2 H2 s2 np2 hp2 => ?_
        have s02 := s1.trans s2
        refine w_var rfl (w_var rfl (a_dputS (s02 _ _ hk) hlen ?_))
        walk_at "g"
        have okn : TabOk (putT t z ⟨dl, .tuple rs, [], false⟩) := ok.new hz (by have := t5.len ok; omega) (names5_ok z hx.1) ⟨hx.2.1, hx.2.2.ok, hx.2.2.rules, by simp only [imm]; exact hx.2.2.imm, by simp, rfl, by simp⟩ rfl
        exact q _ _ (oth_of s02).put (TabX.put (r := ⟨dl, .tuple rs, [], false⟩) (s02 _ _ hk) (hr2.s s02) okn (row_of hp2 (dp_s s02 h2) (dp_s s02 h3) (.tup (tupOf (s2 _ _ hp1)) .nil))) .non
    | rule z rs =>
      have hv : Dp K H v (.tuple [.str "rule", .str z, .tuple rs]) := hv
      walk_at "g"
      refine w_ixD1 hv fun u1 h1 => ?_
      cases dp_str h1
      walk_at "g"
      refine w_ixD0 hv fun u0 h0 => ?_
      cases dp_str h0
      walk_at "g"
      refine w_dnotin (w_var rfl (w_var rfl ?_))
      refine a_dnotinS (.inl hk) ?_
      rw [hr2.isIn]
      walk_at "g"
      refine if_b (fun hz => ?_) (fun hz => ?_)
      · have hz : z ∉ namesT t := by simpa using hz
        rw [(due_no (rs := rs) (ns := []) (x := true) (rowOf_none.mpr hz)).1] at q
        walk_at "g"
        refine w_newT (by simp) fun p2 H2 s2 np hp2 => ?_
        exact q _ _ (oth_of s2) ⟨kvs, s2 _ _ hk, hr2.s s2⟩ (refD_dp hp2)
      · have hz : z ∈ namesT t := by simpa using hz
        obtain ⟨r, er⟩ := rowOf_some.mpr hz
        obtain ⟨u, eu, hu⟩ := hr2.val er
        obtain ⟨p, ud, ur, un, rfl, hpt, g1, g2, g3⟩ := row_at hu
        have hro := ok.row z r er
        rw [due_rule hx er] at q
        walk_at "p"
        refine w_dget (w_var rfl (w_var rfl ?_))
        refine a_dgetS (.inl hk) eu ?_
        refine w_gtup hpt rfl ?_
        walk_at "g"
        refine w_ixD0 hv fun u0 h0 => ?_
        cases dp_str h0
        walk_at "g"
        refine w_dput ?_
        walk_at "g"
        refine w_ixD2 hv fun u2 h2 => ?_
        walk_at "g"
        refine w_newT (by simp) fun p2 H2 s2 np2 hp2 => ?_
        refine w_var rfl (w_var rfl (a_dputS (s2 _ _ hk) hlen ?_))
        have okn : TabOk (putT t z { r with rules := .tuple rs }) := ok.same er ⟨hro.deal, hx.2.ok, hx.2.rules, by simp only [imm]; exact hx.2.imm, hro.nd, hro.srt, hro.mem⟩ rfl
        have hfin := TabX.put (Tb := Tb) (z := z) (r := { r with rules := .tuple rs }) (s2 _ _ hk) (hr2.s s2) okn (row_of hp2 (dp_s s2 g1) (dp_s s2 h2) (dp_s s2 g3))
        have ho : Oth Tb H (upd H2 Tb (.dK (putK kvs (.inr z) (.ref p2)))) := (oth_of s2).put
        have hv2 := dp_tups (tups_upd (o := .dK (putK kvs (.inr z) (.ref p2))) (s2 _ _ hk) True.intro) (show imm (.tuple [.str "rule", .str z, .tuple rs]) = true by simp only [imm, immAll, hx.2.imm, Bool.and_self]) (dp_s s2 hv)
        walk_at "g"
        refine w_ixD0 hv2 fun u0 h0 => ?_
        cases dp_str h0
        walk_at "g"
        refine w_ixD0 hv2 fun u0 h0 => ?_
        cases dp_str h0
        walk_at "g"
        refine w_ixD0 hv2 fun u0 h0 => ?_
        cases dp_str h0
        walk_at "g"
        exact q _ _ ho hfin .non
    | need z ns =>
      have hv : Dp K H v (.tuple [.str "need", .str z, .tuple (ns.map PyData.str)]) := hv
      walk_at "g"
      refine w_ixD1 hv fun u1 h1 => ?_
      cases dp_str h1
      walk_at "g"
      refine w_ixD0 hv fun u0 h0 => ?_
      cases dp_str h0
      walk_at "g"
      refine w_dnotin (w_var rfl (w_var rfl ?_))
      refine a_dnotinS (.inl hk) ?_
      rw [hr2.isIn]
      walk_at "g"
      refine if_b (fun hz => ?_) (fun hz => ?_)
      · have hz : z ∉ namesT t := by simpa using hz
        rw [(due_no (rs := []) (ns := ns) (x := true) (rowOf_none.mpr hz)).2.1] at q
        walk_at "g"
        refine w_newT (by simp) fun p2 H2 s2 np hp2 => ?_
        exact q _ _ (oth_of s2) ⟨kvs, s2 _ _ hk, hr2.s s2⟩ (refD_dp hp2)
      · have hz : z ∈ namesT t := by simpa using hz
        obtain ⟨r, er⟩ := rowOf_some.mpr hz
        obtain ⟨u, eu, hu⟩ := hr2.val er
        obtain ⟨p, ud, ur, un, rfl, hpt, g1, g2, g3⟩ := row_at hu
        have hro := ok.row z r er
        rw [due_need hx er] at q
        walk_at "p"
        refine w_dget (w_var rfl (w_var rfl ?_))
        refine a_dgetS (.inl hk) eu ?_
        refine w_gtup hpt rfl ?_
        walk_at "g"
        refine w_ixD0 hv fun u0 h0 => ?_
        cases dp_str h0
        walk_at "g"
        refine w_ixD0 hv fun u0 h0 => ?_
        cases dp_str h0
        walk_at "g"
        refine w_ixD2 hv fun u2 h2 => ?_
        cases h2 with
        | @tup pa _ _ hn ht =>
        cases strs_dps ht
        walk_at "g"
        have hnl : ns.length ≤ 100 := by
          have h3 := hx.2.2
          simp only [risT, Bool.and_eq_true, decide_eq_true_eq] at h3
          have := nodup_len h3.1 hx.2.1
          rw [len_names] at this
          have := ok.len
          omega
        refine ⟨Tb, t, pa, ns, rfl, ⟨kvs, .inl hk, hr2⟩, ok, .inr hn, hnl, hx.2.1, fun zs G H1 s1 nG hG hzs => ?_⟩
        refine w_inL (lstOf hG) rfl (flat_strs zs) ?_
        rw [inV_strs]
        walk_at "g"
        refine if_b (fun hb2 => ?_) (fun hb2 => ?_)
        · have hb2 := (hzs.mem z).mp (of_decide_eq_true hb2)
          rw [if_pos hb2] at q
          walk_at "g"
          refine w_newT (by simp) fun p2 H2 s2 np hp2 => ?_
          have s02 := s1.trans s2
          exact q _ _ (oth_of s02) ⟨kvs, s02 _ _ hk, hr2.s s02⟩ (refD_dp hp2)
        · have hb2 : ¬ ∃ m ∈ ns, Rch t m z := fun w => of_decide_eq_false hb2 ((hzs.mem z).mpr w)
          rw [if_neg hb2] at q
          refine w_next ?_
          walk_at "c"
          refine w_dput ?_
          walk_at "g"
          refine w_ixD2 (dp_s s1 hv) fun u2 h2 => ?_
          walk_at "g"
          refine w_newT (by simp) fun p2 H2 s2 np2 hp2 => ?_
          have s02 := s1.trans s2
          refine w_var rfl (w_var rfl (a_dputS (s02 _ _ hk) hlen ?_))
          have h3 := hx.2.2
          simp only [risT, Bool.and_eq_true, decide_eq_true_eq] at h3
          have okn : TabOk (putT t z { r with needs := ns }) := ok.need er ⟨hro.deal, hro.ok, hro.rules, hro.im, h3.1, h3.2, hx.2.1⟩ fun m hm p => hb2 ⟨m, hm, p⟩
          have hfin := TabX.put (Tb := Tb) (z := z) (r := { r with needs := ns }) (s02 _ _ hk) (hr2.s s02) okn (row_of hp2 (dp_s s02 g1) (dp_s s02 g2) (dp_s s2 h2))
          have ho : Oth Tb H (upd H2 Tb (.dK (putK kvs (.inr z) (.ref p2)))) := (oth_of s02).put
          have hv2 := dp_tups (tups_upd (o := .dK (putK kvs (.inr z) (.ref p2))) (s02 _ _ hk) True.intro) (show imm (.tuple [.str "need", .str z, .tuple (ns.map PyData.str)]) = true by simp only [imm, immAll, imm_strs, Bool.and_self]) (dp_s s02 hv)
          walk_at "g"
          refine w_ixD0 hv2 fun u0 h0 => ?_
          cases dp_str h0
          walk_at "g"
          refine w_ixD0 hv2 fun u0 h0 => ?_
          cases dp_str h0
          walk_at "g"
          exact q _ _ ho hfin .non
    | dark z x =>
      have hv : Dp K H v (.tuple [.str "dark", .str z, .bool x]) := hv
      walk_at "g"
      refine w_ixD1 hv fun u1 h1 => ?_
      cases dp_str h1
      walk_at "g"
      refine w_ixD0 hv fun u0 h0 => ?_
      cases dp_str h0
      walk_at "g"
      refine w_dnotin (w_var rfl (w_var rfl ?_))
      refine a_dnotinS (.inl hk) ?_
      rw [hr2.isIn]
      walk_at "g"
      refine if_b (fun hz => ?_) (fun hz => ?_)
      · have hz : z ∉ namesT t := by simpa using hz
        rw [(due_no (rs := []) (ns := []) (x := x) (rowOf_none.mpr hz)).2.2.1] at q
        walk_at "g"
        refine w_newT (by simp) fun p2 H2 s2 np hp2 => ?_
        exact q _ _ (oth_of s2) ⟨kvs, s2 _ _ hk, hr2.s s2⟩ (refD_dp hp2)
      · have hz : z ∈ namesT t := by simpa using hz
        obtain ⟨r, er⟩ := rowOf_some.mpr hz
        obtain ⟨u, eu, hu⟩ := hr2.val er
        obtain ⟨p, ud, ur, un, rfl, hpt, g1, g2, g3⟩ := row_at hu
        have hro := ok.row z r er
        rw [due_dark er] at q
        walk_at "p"
        refine w_dget (w_var rfl (w_var rfl ?_))
        refine a_dgetS (.inl hk) eu ?_
        refine w_gtup hpt rfl ?_
        walk_at "g"
        refine w_ixD0 hv fun u0 h0 => ?_
        cases dp_str h0
        walk_at "g"
        refine w_ixD0 hv fun u0 h0 => ?_
        cases dp_str h0
        walk_at "g"
        refine w_ixD0 hv fun u0 h0 => ?_
        cases dp_str h0
        walk_at "g"
        refine w_dput ?_
        walk_at "g"
        refine w_ixD2 hv fun u2 h2 => ?_
        cases dp_blB h2
        walk_at "g"
        refine w_newT (by simp) fun p2 H2 s2 np2 hp2 => ?_
        refine w_var rfl (w_var rfl (a_dputS (s2 _ _ hk) hlen ?_))
        have okn : TabOk (putT t z { r with dim := x }) := ok.same er ⟨hro.deal, hro.ok, hro.rules, hro.im, hro.nd, hro.srt, hro.mem⟩ rfl
        have hfin := TabX.put (Tb := Tb) (z := z) (r := { r with dim := x }) (s2 _ _ hk) (hr2.s s2) okn (row_of hp2 (dp_s s2 g1) (dp_s s2 g2) (dp_s s2 g3))
        have ho : Oth Tb H (upd H2 Tb (.dK (putK kvs (.inr z) (.ref p2)))) := (oth_of s2).put
        have hv2 := dp_tups (tups_upd (o := .dK (putK kvs (.inr z) (.ref p2))) (s2 _ _ hk) True.intro) (show imm (.tuple [.str "dark", .str z, .bool x]) = true from rfl) (dp_s s2 hv)
        walk_at "g"
        refine w_ixD0 hv2 fun u0 h0 => ?_
        cases dp_str h0
        walk_at "g"
        exact q _ _ ho hfin .non
    | drop z =>
      have hv : Dp K H v (.tuple [.str "drop", .str z]) := hv
      walk_at "g"
      refine w_ixD1 hv fun u1 h1 => ?_
      cases dp_str h1
      walk_at "g"
      refine w_ixD0 hv fun u0 h0 => ?_
      cases dp_str h0
      walk_at "g"
      refine w_dnotin (w_var rfl (w_var rfl ?_))
      refine a_dnotinS (.inl hk) ?_
      rw [hr2.isIn]
      walk_at "g"
      refine if_b (fun hz => ?_) (fun hz => ?_)
      · have hz : z ∉ namesT t := by simpa using hz
        rw [(due_no (rs := []) (ns := []) (x := true) (rowOf_none.mpr hz)).2.2.2] at q
        walk_at "g"
        refine w_newT (by simp) fun p2 H2 s2 np hp2 => ?_
        exact q _ _ (oth_of s2) ⟨kvs, s2 _ _ hk, hr2.s s2⟩ (refD_dp hp2)
      · have hz : z ∈ namesT t := by simpa using hz
        obtain ⟨r, er⟩ := rowOf_some.mpr hz
        obtain ⟨u, eu, hu⟩ := hr2.val er
        obtain ⟨p, ud, ur, un, rfl, hpt, g1, g2, g3⟩ := row_at hu
        have hro := ok.row z r er
        walk_at "p"
        refine w_dget (w_var rfl (w_var rfl ?_))
        refine a_dgetS (.inl hk) eu ?_
        refine w_gtup hpt rfl ?_
        walk_at "g"
        refine w_ixD0 hv fun u0 h0 => ?_
        cases dp_str h0
        walk_at "g"
        refine w_ixD0 hv fun u0 h0 => ?_
        cases dp_str h0
        walk_at "g"
        refine w_ixD0 hv fun u0 h0 => ?_
        cases dp_str h0
        walk_at "g"
        refine w_ixD0 hv fun u0 h0 => ?_
        cases dp_str h0
        walk_at "g"
        refine w_sortT (.inl hk) hr2 ok.len fun ys F H1 y s1 nF hF => ?_
        rw [due_drop ok er y, filter_head] at q
        have hyl := y.len
        have hok := ok.len
        refine ⟨F, rfl, ⟨_, lstOf hF⟩, ?_⟩
        refine lc_pure (walk_list (K := K) (a := F) (xs := ys.map V.str)) (by rw [List.length_map]; omega) (ys.map fun m => if needIn t z m = true then [V.str m] else []) (by simp) (fun H' s => lstOf (s _ _ hF)) ?_ ?_
        · rintro C j acc x G' G'' hC hj hacc hG' iv ⟨rfl, hy⟩
          rw [List.length_map] at hj
          rw [List.getElem?_map] at hy
          obtain ⟨m, hm, rfl⟩ := Option.map_eq_some_iff.mp hy
          obtain ⟨s, es⟩ := rowOf_some.mpr (y.mem.mp (List.mem_of_getElem? hm))
          obtain ⟨u, eu, hu⟩ := hr2.val es
          have s2 := s1.trans iv.1
          walk_at "g"
          refine ⟨rfl, ?_⟩
          walk_at "g"
          refine w_dget (w_var rfl (w_var rfl ?_))
          refine a_dgetS (.inl (s2 _ _ hk)) eu ?_
          walk_at "g"
          refine w_ixD2 (show Dp K _ u (.tuple [s.deal, s.rules, .tuple (s.needs.map PyData.str), .bool s.dim]) from dp_s s2 hu) fun u3 h3 => ?_
          cases h3 with
          | tup hn ht =>
          cases strs_dps ht
          refine w_inT hn rfl (flat_strs s.needs) ?_
          rw [inV_strs]
          have e : needIn t z m = decide (z ∈ s.needs) := by
            unfold needIn
            rw [es]
          rw [← e]
          walk_at "g"
          refine if_b (fun hb1 => ?_) (fun hb1 => ?_)
          · walk_at "g"
            refine lcp_nx hC (by omega) hacc hG' iv (Same.refl _) ?_
            rw [List.getElem?_map, hm]
            simp [hb1]
          · refine lcp_sk hacc hG' iv (Same.refl _) ?_
            rw [List.getElem?_map, hm]
            simp [hb1]
        · intro C H2 nC s2 hC
          rw [flat_if (needIn t z) V.str] at hC
          have s02 := s1.trans s2
          have hnm : ∀ o ∈ ys.filter (needIn t z), isName (.str o) = true := fun o ho => ok.nm o (y.mem.mp (List.mem_filter.mp ho).1)
          have hfl : (ys.filter (needIn t z)).length ≤ 12 := Nat.le_trans (List.length_filter_le _ _) (by omega)
          walk_at "g"
          refine w_newL (by simp) fun E0 H3 s3 nE hE => ?_
          refine w_neD (d := .list ((ys.filter (needIn t z)).map PyData.str)) (e := .list []) (.lst (lstOf (s3 _ _ hC)) (dps_strsB _)) (.lst (lstOf hE) .nil) (gd_namesL hnm (by omega)).sh rfl ?_
          rw [eqv_strsNil]
          have s03 := s02.trans s3
          walk_at "g"
          cases hff : ys.filter (needIn t z) with
          | nil =>
            rw [hff] at q
            refine if_f (by simp) ?_
            walk_at "p"
            refine w_dpop1 (w_var rfl ⟨Tb, rfl, .inl ⟨_, .inl (s03 _ _ hk)⟩, w_var rfl ⟨kvs, .inr z, .ref p, s03 _ _ hk, rfl, eu, ?_⟩⟩)
            walk_at "g"
            have okn : TabOk (dropT t z) := ok.drop fun n s en hz' => by
              have hm : n ∈ ys.filter (needIn t z) := List.mem_filter.mpr ⟨y.mem.mpr (rowOf_mem en), by unfold needIn; rw [en]; exact decide_eq_true hz'⟩
              rw [hff] at hm
              cases hm
            exact q _ _ (oth_of s03).put ⟨_, upd_same, ((hr2.s s03).drop).tups (tups_upd (s03 _ _ hk) True.intro) okn.imm⟩ .non
          | cons o os =>
            rw [hff] at q hC
            refine if_t (by simp) ?_
            walk_at "g"
            refine w_ixL (lstOf (s3 _ _ hC)) (at_of (v := .str o) (j := 0) rfl rfl) ?_
            walk_at "g"
            refine w_newT (by simp) fun p2 H4 s4 np hp2 => ?_
            have s04 := s03.trans s4
            exact q _ _ (oth_of s04) ⟨kvs, s04 _ _ hk, hr2.s s04⟩ (.tup (tupOf hp2) (.cons (.str _) (.cons (.str _) (.cons (.str _) .nil))))
theorem ok__law_board (T : Tx K mg) (B : TLs base mg K tfS) : Ok P w K mg base 18 "_law_board" ["dice", "most"] (spLBoard K tfS) := by
  refine Ok.mk' T.G__law_board T.F__law_board (fun _ _ _ _ _ _ us hl => match us, hl with | [_, _], _ => rfl) sc__law_board (fun vs H Q E h => ?_) (fun cdv A outer s H vs Q E hr h => ?_)
  · obtain ⟨a, m, rfl, hd, m1, m2, hT, q⟩ := h
    rfl
  · obtain ⟨a, m, rfl, hd, m1, m2, hT, q⟩ := h
    refine ⟨(tSeq (tPar3 2 3 4 (tCons (tMake (He.ga K "Board") (spBrdInit K) [] E tNil) (tCons tDNewK (tCons (tC (.bl true)) tNil))))
      (tSeq (tFor (iRng1 (tCons (tOp oAdd (tC (.int 2)) (tCall (spRoll) [] E (tCons (tVar 0) (tCons (tVar 1) tNil)))) tNil)) (gName 5) (tSeq (tAsg (tCall (spLDeed K) [] E (tCons (tVar 0) (tCons (tVar 3) tNil))) (gName 6))
      (tSeq (tIfS (tTest (tOp oLt (tVar 5) (tC (.int 2)))) (tAsg (tTup (tCons (tC (.str "put")) (tCons (tOp (rIxL K) (tLst (tCons (tC (.str "ab")) (tCons (tC (.str "cd")) tNil))) (tVar 5)) (tCons (tCall (spDeal K) [] E (tCons (tVar 0) tNil)) (tCons (tCall (spLRules K) [] E (tCons (tVar 0) (tCons (tC (.int 2)) tNil))) tNil))))) (gName 6)) tNext)
      (tAsg (tAndV (tVar 4) (tOp (rEqD K) (tCall (spLDo K tfS) [] E (tCons (tVar 2) (tCons (tVar 6) tNil))) (tCall (spLDue K) [] E (tCons (tVar 3) (tCons (tVar 6) tNil))))) (gName 4)))))
      (tSeq (tIfS (tTest (tOp (rEqDc K) (tVar 3) tDNewK)) (tSeq (tAsg (tTup (tCons (tC (.str "put")) (tCons (tC (.str "ab")) (tCons (tCall (spDeal K) [] E (tCons (tVar 0) tNil)) (tCons (tCall (spLRules K) [] E (tCons (tVar 0) (tCons (tC (.int 2)) tNil))) tNil))))) (gName 6))
      (tAsg (tAndV (tVar 4) (tOp (rEqD K) (tCall (spLDo K tfS) [] E (tCons (tVar 2) (tCons (tVar 6) tNil))) (tCall (spLDue K) [] E (tCons (tVar 3) (tCons (tVar 6) tNil))))) (gName 4))) tNext)
      (tRet (tTup (tCons (tVar 2) (tCons (tVar 3) (tCons (tVar 4) tNil)))))))), (pss_cons (ps_par3 (by rfl) sc__law_board.nd rfl rfl rfl (by decide) (by decide) (by decide) rfl rfl rfl (pa_cons (pe_new0 (ok_Board___init__ T) T.K_Board T.G_Board hr (pnx (L2N.takes_of rfl rfl rfl rfl))) (pa_cons pe_dnewK (pa_cons pe_bl pa_nil))) (by rfl))
      (pss_cons (ps_for (passes_of rfl) rfl (pi_range1 (by rfl) T.Z_range (pa_cons (pe_op op_add pe_int (pe_f (ok__law_roll T) hr (pnx (L2N.takes_of rfl rfl rfl rfl)) (pa_cons (pv 0) (pa_cons (pv 1) pa_nil)))) pa_nil)) (pg_name (i := 5) sc__law_board.nd rfl (by first | exact Or.inl rfl | exact Or.inr rfl)) (pss_cons (ps_set (i := 6) sc__law_board.nd rfl (by first | exact Or.inl rfl | exact Or.inr rfl) (pe_f (ok__law_deed T) hr (pnx (L2N.takes_of rfl rfl rfl rfl)) (pa_cons (pv 0) (pa_cons (pv 3) pa_nil))))
      (pss_cons (ps_if (pt_cmpR op_lt (pv 5) pe_int (nomark _)) (pss_one (ps_set (i := 6) sc__law_board.nd rfl (by first | exact Or.inl rfl | exact Or.inr rfl) (pe_tup (pa_cons pe_str (pa_cons (pe_ix ix_list (pe_lst (pa_cons pe_str (pa_cons pe_str pa_nil))) (pv 5) (fun _ _ => rfl)) (pa_cons (pe_f (ok__law_deal T) hr (pnx (L2N.takes_of rfl rfl rfl rfl)) (pa_cons (pv 0) pa_nil)) (pa_cons (pe_f (ok__law_rules T) hr (pnx (L2N.takes_of rfl rfl rfl rfl)) (pa_cons (pv 0) (pa_cons pe_int pa_nil))) pa_nil))))))) pss_nil)
      (pss_one (ps_set (i := 4) sc__law_board.nd rfl (by first | exact Or.inl rfl | exact Or.inr rfl) (pe_and (pv 4) (pe_one (pe_cmpR (op_eqD hr.units) (pe_f (ok__law_do T B) hr (pnx (L2N.takes_of rfl rfl rfl rfl)) (pa_cons (pv 2) (pa_cons (pv 6) pa_nil))) (pe_f (ok__law_due T) hr (pnx (L2N.takes_of rfl rfl rfl rfl)) (pa_cons (pv 3) (pa_cons (pv 6) pa_nil))) (nomark _)))))))))
      (pss_cons (ps_if (pt_cmpR (op_eqDc (hu65 hr)) (pv 3) pe_dnewK (nomark _)) (pss_cons (ps_set (i := 6) sc__law_board.nd rfl (by first | exact Or.inl rfl | exact Or.inr rfl) (pe_tup (pa_cons pe_str (pa_cons pe_str (pa_cons (pe_f (ok__law_deal T) hr (pnx (L2N.takes_of rfl rfl rfl rfl)) (pa_cons (pv 0) pa_nil)) (pa_cons (pe_f (ok__law_rules T) hr (pnx (L2N.takes_of rfl rfl rfl rfl)) (pa_cons (pv 0) (pa_cons pe_int pa_nil))) pa_nil))))))
      (pss_one (ps_set (i := 4) sc__law_board.nd rfl (by first | exact Or.inl rfl | exact Or.inr rfl) (pe_and (pv 4) (pe_one (pe_cmpR (op_eqD hr.units) (pe_f (ok__law_do T B) hr (pnx (L2N.takes_of rfl rfl rfl rfl)) (pa_cons (pv 2) (pa_cons (pv 6) pa_nil))) (pe_f (ok__law_due T) hr (pnx (L2N.takes_of rfl rfl rfl rfl)) (pa_cons (pv 3) (pa_cons (pv 6) pa_nil))) (nomark _))))))) pss_nil)
      (pss_one (ps_ret (pe_tup (pa_cons (pv 2) (pa_cons (pv 3) (pa_cons (pv 4) pa_nil))))))))), ?_⟩
    walk_at "0"
    walk_at "g"
    refine w_board fun b d L H1 s1 nb nd nL hd1 hB => ?_
    walk_at "g"
    refine w_dnewK fun Tb H2 s2 nTb hTb => ?_
    walk_at "g"
    refine ⟨_, _, _, rfl, ?_⟩
    have s02 := s1.trans s2
    have bst0 : BSt K (tabL K tfS) a H H2 b L Tb [] [] [] := ⟨(ButT.refl hd).same s02, ext_tabs s02 hT, (hB _ fun x hx z => hd1 (by rw [← z, show x = Tb from hx]; exact nTb)).s s2, ⟨[], hTb, .nil⟩, tab_nil, tab5_nil, nw_no nb, nw_no nL, nw_no (s1.free nTb)⟩
    walk_at "g"
    refine ⟨a, (m : Int), rfl, bst0.bt.d1, by omega, by omega, fun r H3 r0 r1 b3 => ?_⟩
    walk_at "g"
    refine ⟨by omega, by omega, ?_⟩
    refine for_go walk_range (fun i σ H' => (∃ x5 x6, σ = [some (.ref a), some (.int (m : Nat)), some (.ref b), some (.ref Tb), some (.bl true), x5, x6]) ∧ ∃ t past, BSt K (tabL K tfS) a H H' b L Tb t past t ∧ past.length ≤ i) ⟨⟨_, _, rfl⟩, [], [], bst0.but b3, by simp⟩ (fun _ _ _ _ _ => trivial) ?_ ?_
    · rintro i x σ Ha' Ha hi ⟨⟨x5, x6, rfl⟩, t, past, hS, hpl⟩ ⟨rfl, rfl⟩
      walk_at "g"
      refine ⟨a, Tb, t, rfl, hS.bt.d1, hS.X, hS.uk, fun v x Hb bb hv hx => ?_⟩
      have hS1 := hS.but bb
      walk_at "g"
      refine if_b (fun hi2 => ?_) (fun _ => ?_)
      · have hi2 := of_decide_eq_true hi2
        obtain ⟨z, hz, hat⟩ := abcd (i := i) (by omega)
        walk_at "g"
        refine w_newL (by simp) fun W H4 s4 nW hW => ?_
        have hS2 := hS1.same s4
        walk_at "g"
        refine w_ixL (lstOf hW) hat ?_
        walk_at "g"
        refine ⟨a, rfl, hS2.bt.d1, fun p s' t' H5 b5 np hp hdl => ?_⟩
        walk_at "g"
        refine ⟨a, 2, rfl, by decide, by decide, b5.d1, fun vr rs H6 b6 hvr hG => ?_⟩
        walk_at "g"
        refine w_newT (by simp) fun p2 H7 s7 np2 hp2 => ?_
        have hS3 := ((hS2.but b5).but b6).same s7
        have hx2 : DeedOk t (.put z (.tuple [.int s', .int t']) rs) := ⟨hz, hdl, hG⟩
        have hv2 : Dp K H7 (.ref p2) (deedD (.put z (.tuple [.int s', .int t']) rs)) := .tup (tupOf hp2) (.cons (.str _) (.cons (.str _) (.cons (.tup (tup_s s7 (b6.tup (tupOf hp))) (.cons (.int _) (.cons (.int _) .nil))) (.cons (dp_s s7 hvr) .nil))))
        walk_at "p"
        refine w_andV (w_var rfl ⟨_, rfl, if_t rfl ?_⟩)
        refine w_deedEq rfl rfl rfl hS3 hv2 hx2 (by omega) fun H' h' k' => ?_
        walk_at "g"
        exact ⟨⟨_, _, rfl⟩, _, _, h', by have := resP_len t past (dueR t (.put z (.tuple [.int s', .int t']) rs)); omega⟩
      · walk_at "p"
        refine w_andV (w_var rfl ⟨_, rfl, if_t rfl ?_⟩)
        refine w_deedEq rfl rfl rfl hS1 hv hx (by omega) fun H' h' k' => ?_
        walk_at "g"
        exact ⟨⟨_, _, rfl⟩, _, _, h', by have := resP_len t past (dueR t x); omega⟩
    · rintro σ Ha ⟨⟨x5, x6, rfl⟩, t, past, hS, hpl⟩
      obtain ⟨kvs, hk, hr2⟩ := hS.X
      walk_at "g"
      refine w_dnewK fun E0 H4 s4 nE hE => ?_
      refine ⟨Tb, E0, kvs, [], tabP t, [], rfl, rfl, s4 _ _ hk, hE, (hr2.s s4).dc, .nil, tabP_sh hS.uk hS.t5, by simp, ?_⟩
      rw [eqDc_nil]
      have hS1 := hS.same s4
      walk_at "g"
      refine if_b (fun h0 => ?_) (fun h0 => ?_)
      · have h0 := of_decide_eq_true h0
        subst h0
        walk_at "g"
        refine ⟨a, rfl, hS1.bt.d1, fun p s' t' H5 b5 np hp hdl => ?_⟩
        walk_at "g"
        refine ⟨a, 2, rfl, by decide, by decide, b5.d1, fun vr rs H6 b6 hvr hG => ?_⟩
        walk_at "g"
        refine w_newT (by simp) fun p2 H7 s7 np2 hp2 => ?_
        have hS3 := ((hS1.but b5).but b6).same s7
        have hx2 : DeedOk [] (.put "ab" (.tuple [.int s', .int t']) rs) := ⟨by decide, hdl, hG⟩
        have hv2 : Dp K H7 (.ref p2) (deedD (.put "ab" (.tuple [.int s', .int t']) rs)) := .tup (tupOf hp2) (.cons (.str _) (.cons (.str _) (.cons (.tup (tup_s s7 (b6.tup (tupOf hp))) (.cons (.int _) (.cons (.int _) .nil))) (.cons (dp_s s7 hvr) .nil))))
        walk_at "p"
        refine w_andV (w_var rfl ⟨_, rfl, if_t rfl ?_⟩)
        refine w_deedEq rfl rfl rfl hS3 hv2 hx2 (by omega) fun H' h' k' => ?_
        walk_at "g"
        refine w_newT (by simp) fun p3 H8 s8 np3 hp3 => ?_
        refine q p3 b L Tb _ _ H8 (h'.same s8) hp3 ?_ (by have := resP_len [] past (dueR [] (.put "ab" (.tuple [.int s', .int t']) rs)); omega)
        rw [due_put tab_nil tab5_nil hx2, if_neg (by simp [namesT])]
        simp [resT, putT]
      · have h0 := of_decide_eq_false h0
        walk_at "g"
        refine w_newT (by simp) fun p3 H8 s8 np3 hp3 => ?_
        exact q p3 b L Tb t past H8 (hS1.same s8) hp3 h0 (by omega)
theorem ok_need (T : Tx K mg) : Ok P w K mg base 1 "need" ["good"] (spNeedT K) := by
  refine Ok.mk' T.G_need T.F_need (fun _ _ _ _ _ _ us hl => match us, hl with | [_], _ => rfl) sc_need (fun vs H Q E h => ?_) (fun cdv A outer s H vs Q E hr h => ?_)
  · obtain ⟨b, rfl, q1, q2⟩ := h
    rfl
  · obtain ⟨b, rfl, q1, q2⟩ := h
    refine ⟨(tIfS (tNot (tB (tVar 0))) (tRz K E "BadText") tNext), (pss_one (ps_if (pt_not (pt_val (pv 0))) (pss_one (ps_rz T.X_BadText (L2N.takes_of rfl rfl rfl rfl))) pss_nil)), ?_⟩
    walk_at "0"
    walk_at "g"
    cases b with
    | true =>
      walk_at "g"
      exact q1 rfl
    | false =>
      walk_at "g"
      exact q2 rfl
theorem ok_read_word (T : Tx K mg) : Ok P w K mg base 2 "read_word" ["word"] (spRdWord K) := by
  refine Ok.mk' T.G_read_word T.F_read_word (fun _ _ _ _ _ _ us hl => match us, hl with | [_], _ => rfl) sc_read_word (fun vs H Q E h => ?_) (fun cdv A outer s H vs Q E hr h => ?_)
  · obtain ⟨z, rfl, hz, q⟩ := h
    rfl
  · obtain ⟨z, rfl, hz, q⟩ := h
    refine ⟨(tSeq (tIfS (tB (tCB (rAll K) (tCons (tLc (iStr (tVar 0)) (gName 1) tYes (tOp rInSg (tVar 1) (tC (.str "0123456789"))) [1]) tNil))) (tSeq (tDrop (tCall (spNeedT K) [] E (tCons (tOp oLt (tCB (cLen K) (tCons (tVar 0) tNil)) (tC (.int 9))) tNil)))
      (tRet (tCB rIntS (tCons (tVar 0) tNil)))) tNext)
      (tRet (tVar 0))), (pss_cons (ps_if (pt_val (pe_callB (cr_all rfl) (by rfl) T.Z_all (by decide +kernel) (pa_cons (pe_lc (own := [("sign", 1)]) rfl sc_read_word.nd (pi_str (pv 0)) (blkOk_by (own := [("sign", 1)]) (N := ["word", "sign"]) (sc := defScope s_read_word) (by decide +kernel)) (fun _ _ _ _ _ => (pg_name (i := 1) sc_read_word.nd rfl (by first | exact Or.inl rfl | exact Or.inr rfl))) (fun _ _ _ _ _ => pts_nil) (fun _ _ _ _ _ => (pe_cmpR op_in_sign (pv 1) (pe_gs T.S_FIGURES) (by rfl)))) pa_nil))) (pss_cons (ps_expr (pe_f (ok_need T) hr (pnx (L2N.takes_of rfl rfl rfl rfl)) (pa_cons (pe_cmpR op_lt (pe_callB call_len (by rfl) T.Z_len (by decide +kernel) (pa_cons (pv 0) pa_nil)) pe_int (nomark _)) pa_nil)))
      (pss_one (ps_ret (pe_callTy call_int_str (by rfl) T.Z_int (by decide +kernel) (pa_cons (pv 0) pa_nil))))) pss_nil)
      (pss_one (ps_ret (pv 0)))), ?_⟩
    walk_at "0"
    have hzl : z.length ≤ 8 := by
      rw [TL.len_tl]
      exact okW_len hz
    have hcs : z.cps.size = z.length := rfl
    walk_at "g"
    refine w_iStr (w_var rfl ⟨z, rfl, ?_⟩)
    refine lc_pure (walk_str (z := z)) (by omega) (z.cps.toList.map fun c => [V.bl (decide (c ∈ figsL))]) (by rw [List.length_map, Array.length_toList]) (fun _ _ => trivial) ?_ ?_
    · rintro D i acc x H' H'' hD hi hacc hH' iv ⟨rfl, c, hc, rfl⟩
      walk_at "g"
      refine ⟨rfl, ?_⟩
      walk_at "g"
      refine w_inSg ?_
      refine lcp_nx hD (by omega) hacc hH' iv (Same.refl _) ?_
      rw [List.getElem?_map, Array.getElem?_toList, hc]
      rfl
    · intro D H2 hD s2 hH2
      rw [flat_one (fun c => V.bl (decide (c ∈ figsL)))] at hH2
      have hH2' : H2 D = some (.lst ((z.cps.toList.map fun c => decide (c ∈ figsL)).map V.bl)) := by
        rw [hH2, List.map_map]
        rfl
      walk_at "g"
      refine w_all (lstOf hH2') ?_
      have e : (z.cps.toList.map fun c => decide (c ∈ figsL)).all id = (TL.tl z).all fun c => decide (c ∈ figsL) := by
        rw [List.all_map]
        rfl
      rw [e]
      rcases okW_figs hz with ⟨n, hn, en, eall⟩ | ⟨hlet, eall⟩
      · rw [eall]
        walk_at "g"
        refine w_lenS (by omega) ?_
        walk_at "g"
        refine ⟨true, ?_, fun _ => ?_, fun z => by cases z⟩
        · congr 2
          exact decide_eq_true (by omega)
        walk_at "g"
        have ez : z = Str.ofString (toString ((n : Nat) : Int)) := TL.ext_tl (by rw [TL.tl_num, en])
        refine ⟨z, (n : Int), rfl, ?_, by omega, ?_⟩
        · rw [ez]
          exact TL.int_num (Nat.le_trans (TL.numL_len (k := 8) (by decide) hn) (by decide))
        · refine q _ _ s2 ?_
          rw [en, readW_num]
          exact .int _
      · rw [eall]
        walk_at "g"
        refine q _ _ s2 ?_
        rw [readW_str hlet.1 hlet.2]
        exact .str _
theorem ok_read (T : Tx K mg) : Ok P w K mg base 3 "read" ["text"] (spRead K) := by
  refine Ok.mkT T.G_read T.F_read (fun _ _ _ _ _ _ us hl => match us, hl with | [_], _ => rfl) sc_read (by decide +kernel) (by decide) (fun vs H Q E h => ?_) (fun cdv A outer s H vs Q E hr h => ?_)
  · obtain ⟨z, ds, rfl, _⟩ := h
    rfl
  · obtain ⟨z, ds, rfl, hzl, hR, q⟩ := h
    refine ⟨(tSeq (tAsg (tLst (tCons (tLst tNil) tNil)) (gName 1)) (tSeq (tFor (iList K (tM1 rSplit (CwR.tReplC (CwR.tReplC (tVar 0) "(" " ( ") ")" " ) ") (tC (.str " ")))) (gName 2) (tIfS (tTest (tOp rEq (tVar 2) (tC (.str "(")))) (tDrop (tBM K "list" rAppend (tVar 1) (tCons (tLst tNil) tNil))) (tIfS (tTest (tOp rEq (tVar 2) (tC (.str ")")))) (tSeq (tDrop (tCall (spNeedT K) [] E (tCons (tOp oGt (tCB (cLen K) (tCons (tVar 1) tNil)) (tC (.int 1))) tNil)))
      (tSeq (tAsg (tCB (cTuple K) (tCons (tBM0 K "list" rPop (tVar 1)) tNil)) (gName 3))
      (tDrop (tBM K "list" rAppend (tOp (rIxL K) (tVar 1) (tUn (rU fun i => .int (-i)) (tC (.int 1)))) (tCons (tVar 3) tNil))))) (tIfS (tTest (tOp rNe (tVar 2) (tC (.str "")))) (tDrop (tBM K "list" rAppend (tOp (rIxL K) (tVar 1) (tUn (rU fun i => .int (-i)) (tC (.int 1)))) (tCons (tCall (spRdWord K) [] E (tCons (tVar 2) tNil)) tNil))) tNext)))) (tSeq (tDrop (tCall (spNeedT K) [] E (tCons (tAndV (tOp rEq (tCB (cLen K) (tCons (tVar 1) tNil)) (tC (.int 1))) (tAndV (tOp rEq (tCB (cLen K) (tCons (tOp (rIxL K) (tVar 1) (tC (.int 0))) tNil)) (tC (.int 1))) (tCB (rIsi K) (tCons (tOp (rIxL K) (tOp (rIxL K) (tVar 1) (tC (.int 0))) (tC (.int 0))) (tCons (tC (.ty "tuple")) tNil))))) tNil)))
      (tRet (tOp (rIxL K) (tOp (rIxL K) (tVar 1) (tC (.int 0))) (tC (.int 0))))))), (psst_cons (PST.of (ps_set (i := 1) sc_read.nd rfl (by first | exact Or.inl rfl | exact Or.inr rfl) (pe_lst (pa_cons (pe_lst pa_nil) pa_nil)))) (psst_cons (pst_for (passes_of rfl) rfl (pit_list (pet_split (CwR.pet_replT (CwR.pet_replC (pv 0))) pe_str)) (pg_name (i := 2) sc_read.nd rfl (by first | exact Or.inl rfl | exact Or.inr rfl)) (pss_one (ps_if (pt_cmpR op_eq (pv 2) pe_str (nomark _)) (pss_one (ps_expr (pe_bm PySem.F.plainAttrs_list PySem.F.slot_list_append PySem.F.type_list_append mt_append (pv 1) (pa_cons (pe_lst pa_nil) pa_nil)))) (pss_one (ps_if (pt_cmpR op_eq (pv 2) pe_str (nomark _)) (pss_cons (ps_expr (pe_f (ok_need T) hr (pnx (L2N.takes_of rfl rfl rfl rfl)) (pa_cons (pe_cmpR op_gt (pe_callB call_len (by rfl) T.Z_len (by decide +kernel) (pa_cons (pv 1) pa_nil)) pe_int (nomark _)) pa_nil)))
      (pss_cons (ps_set (i := 3) sc_read.nd rfl (by first | exact Or.inl rfl | exact Or.inr rfl) (pe_callTy call_tuple_of (by rfl) T.Z_tuple (by decide +kernel) (pa_cons (pe_bm0 PySem.F.plainAttrs_list PySem.F.slot_list_pop PySem.F.type_list_pop mt_pop (pv 1)) pa_nil)))
      (pss_one (ps_expr (pe_bm PySem.F.plainAttrs_list PySem.F.slot_list_append PySem.F.type_list_append mt_append (pe_ix ix_list (pv 1) (pe_un un_neg pe_int) (fun _ _ => rfl)) (pa_cons (pv 3) pa_nil)))))) (pss_one (ps_if (pt_cmpR op_ne (pv 2) pe_str (nomark _)) (pss_one (ps_expr (pe_bm PySem.F.plainAttrs_list PySem.F.slot_list_append PySem.F.type_list_append mt_append (pe_ix ix_list (pv 1) (pe_un un_neg pe_int) (fun _ _ => rfl)) (pa_cons (pe_f (ok_read_word T) hr (pnx (L2N.takes_of rfl rfl rfl rfl)) (pa_cons (pv 2) pa_nil)) pa_nil)))) pss_nil))))))) (PSsT.of (pss_cons (ps_expr (pe_f (ok_need T) hr (pnx (L2N.takes_of rfl rfl rfl rfl)) (pa_cons (pe_and (pe_cmpR op_eq (pe_callB call_len (by rfl) T.Z_len (by decide +kernel) (pa_cons (pv 1) pa_nil)) pe_int (nomark _)) (pe_and (pe_cmpR op_eq (pe_callB call_len (by rfl) T.Z_len (by decide +kernel) (pa_cons (pe_ix ix_list (pv 1) pe_int (fun _ _ => rfl)) pa_nil)) pe_int (nomark _)) (pe_one (pe_callB call_isi (by rfl) T.Z_isinstance (by decide +kernel) (pa_cons (pe_ix ix_list (pe_ix ix_list (pv 1) pe_int (fun _ _ => rfl)) pe_int (fun _ _ => rfl)) (pa_cons (pe_bltn (v := .ty "tuple") (by rfl) T.Z_tuple (by decide +kernel) rfl) pa_nil)))))) pa_nil)))
      (pss_one (ps_ret (pe_ix ix_list (pe_ix ix_list (pv 1) pe_int (fun _ _ => rfl)) pe_int (fun _ _ => rfl)))))))), ?_⟩
    walk_at "0"
    walk_at "g"
    refine w_newL (by simp) fun A0 H1 s1 nA0 hA0 => ?_
    walk_at "g"
    refine w_newL (by simp) fun RL H2 s2 nRL hRL => ?_
    have k1 := TK.replace_len z "(" " ( "
    have k2 := TK.replace_len (Txt.replace z "(" " ( ") ")" " ) "
    have l3 : (" ( " : Str).length = 3 := rfl
    have l4 : (" ) " : Str).length = 3 := rfl
    rw [l3] at k1
    rw [l4] at k2
    have hsl := split_le (Txt.replace (Txt.replace z "(" " ( ") ")" " ) ") " "
    have hws := words_of (z := z)
    walk_at "g"
    refine w_m1' (w_repl (w_repl (w_var rfl ⟨z, rfl, by rw [l3]; omega, _, rfl, by rw [l4]; omega, ⟨_, rfl⟩, w_c ?_⟩)))
    refine w_split rfl (by rw [sizeLine_eq]; omega) fun WL H3 s3 nWL hWL => ?_
    generalize Txt.split (Txt.replace (Txt.replace z "(" " ( ") ")" " ) ") " " = ws at hsl hws hWL
    refine ⟨WL, rfl, ⟨_, lstOf hWL⟩, ?_⟩
    have hwn : (TL.spl [32] 0 [] (spB (TL.tl z))).length = ws.length := by rw [← hws, List.length_map]
    have hRA : RL ≠ A0 := fun e => by rw [e, hA0] at nRL; cases nRL
    have hWA : WL ≠ A0 := fun e => by rw [e, s2 _ _ hA0] at nWL; cases nWL
    have hWR : WL ≠ RL := fun e => by rw [e, hRL] at nWL; cases nWL
    have st0 : StkAt K H H3 WL RL (ws.map V.str) [A0] [[]] := ⟨(s1.trans s2).trans s3, hWL, hWR.symm, s1.free nRL, by rw [s3 _ _ hRL]; rfl, by simp, fun a ha => by
      rw [List.mem_singleton.mp ha]
      exact ⟨hRA.symm, hWA.symm, nA0⟩, .cons (s3 _ _ (s2 _ _ hA0)) .nil rfl .nil⟩
    refine for_go (walk_list (K := K) (a := WL) (xs := ws.map V.str)) (fun i σ H' => (∃ x2 x3, σ = [some (.str z), some (.ref RL), x2, x3]) ∧ ∃ as st, runT [[]] ((TL.spl [32] 0 [] (spB (TL.tl z))).take i) = some st ∧ StkAt K H H' WL RL (ws.map V.str) as st ∧ st.length ≤ 1 + i ∧ ∀ r ∈ st, r.length ≤ i) ⟨⟨_, _, rfl⟩, [A0], [[]], rfl, st0, by simp, by simp⟩ (fun i σ H' _ h => by
      obtain ⟨_, as, st, _, s', _⟩ := h
      exact lstOf s'.hw) ?_ ?_
    · rintro i x σ Ha' Ha hi ⟨⟨x2, x3, rfl⟩, as, st, hrun, hst, hn1, hn2⟩ ⟨rfl, hxi⟩
      rw [List.getElem?_map] at hxi
      obtain ⟨wd, hwd, rfl⟩ := Option.map_eq_some_iff.mp hxi
      have hwi : (TL.spl [32] 0 [] (spB (TL.tl z)))[i]? = some (TL.tl wd) := by rw [← hws, List.getElem?_map, hwd]; rfl
      rw [List.length_map] at hi
      obtain ⟨st', hstep, hrun'⟩ := run_step hR.run hrun hwi
      obtain ⟨hn1', hn2'⟩ := step_len hstep hn1 hn2
      have hok := hR.ok _ (List.mem_of_getElem? hwi)
      have hal := hst.rows.len
      have e0 : TL.tl ("(" : Str) = [40] := by decide +kernel
      have e1 : TL.tl (")" : Str) = [41] := by decide +kernel
      have b1 : decide (wd = ("(" : Str)) = decide (TL.tl wd = [40]) := by
        rw [← e0]
        exact decide_eq_decide.mpr ⟨fun h => by rw [h], fun h => TL.ext_tl h⟩
      have b2 : decide (wd = (")" : Str)) = decide (TL.tl wd = [41]) := by
        rw [← e1]
        exact decide_eq_decide.mpr ⟨fun h => by rw [h], fun h => TL.ext_tl h⟩
      have b3 : decide (V.str wd = V.str ("" : Str)) = decide (TL.tl wd = []) := by
        refine decide_eq_decide.mpr ⟨fun h => ?_, fun h => ?_⟩
        · injection h with h
          rw [h]
          rfl
        · congr 1
          exact TL.ext_tl h
      walk_at "g"
      rw [b1]
      refine if_b (fun c1 => ?_) (fun c1 => ?_)
      · have c1 := of_decide_eq_true c1
        rw [c1] at hstep
        have es : st' = [] :: st := by
          have : stepT st [40] = some ([] :: st) := by simp [stepT]
          rw [this] at hstep
          cases hstep
          rfl
        subst es
        walk_at "g"
        refine ⟨tyL hst.rl, ?_⟩
        walk_at "g"
        refine w_newL (by simp) fun p H5 s5 np hp => ?_
        walk_at "g"
        refine ⟨RL, _, .ref p, rfl, rfl, (hst.same s5).rl, by rw [List.length_map, List.length_reverse, sizeLine_eq]; omega, ?_⟩
        exact ⟨⟨_, _, rfl⟩, _, _, hrun', hst.push s5 np hp, by omega, hn2'⟩
      · have c1 := of_decide_eq_false c1
        walk_at "g"
        rw [b2]
        refine if_b (fun c2 => ?_) (fun c2 => ?_)
        · have c2 := of_decide_eq_true c2
          rw [c2] at hstep
          obtain ⟨r, q0, more, rfl, rfl⟩ : ∃ r q0 more, st = r :: q0 :: more ∧ st' = (q0 ++ [.tuple r]) :: more := by
            unfold stepT at hstep
            rw [if_neg (by decide), if_pos rfl] at hstep
            split at hstep
            · cases hstep
              exact ⟨_, _, _, rfl, rfl⟩
            · cases hstep
          match as, hal with
          | a :: a' :: as, hal =>
          walk_at "g"
          refine w_lenL (lstOf hst.rl) ?_
          walk_at "g"
          refine ⟨true, ?_, fun _ => ?_, fun z => by cases z⟩
          · congr 2
            exact decide_eq_true (by rw [List.length_map, List.length_reverse, List.length_cons, List.length_cons]; omega)
          obtain ⟨vs, ha, hst2, ha2, hd2, him2⟩ := hst.pop
          walk_at "g"
          refine ⟨tyL hst.rl, RL, _, .ref a, rfl, rfl, hst.rl, ?_, ?_⟩
          · simp
          rw [show ((a :: a' :: as).reverse.map V.ref).dropLast = ((a' :: as).reverse.map V.ref) by simp]
          walk_at "g"
          refine w_tupleD (lstOf ha2) hd2 fun u H6 s6 hu hdu => ?_
          have hst6 := hst2.same s6
          have himt : imm (.tuple r) = true := by simp only [imm, him2]
          obtain ⟨vs', ha', hvl, hst7⟩ := hst6.app hdu himt
          walk_at "g"
          refine w_ixL (lstOf hst6.rl) (v := .ref a') (by rw [List.reverse_cons, List.map_append]; exact at_last2 _ _) ?_
          refine ⟨tyL ha', ?_⟩
          walk_at "g"
          have := hn2 q0 (by simp)
          refine ⟨a', vs', .ref u, rfl, rfl, ha', by rw [sizeLine_eq]; omega, ?_⟩
          exact ⟨⟨_, _, rfl⟩, _, _, hrun', hst7, by omega, hn2'⟩
        · have c2 := of_decide_eq_false c2
          walk_at "g"
          refine w_ne rfl ?_
          rw [b3]
          walk_at "g"
          refine if_b (fun c3 => ?_) (fun c3 => ?_)
          · have c3 : ¬ TL.tl wd = [] := by simpa using c3
            have hW : okW (TL.tl wd) := by
              rcases hok with h | h | h | h
              · exact absurd h c3
              · exact absurd h c1
              · exact absurd h c2
              · exact h
            obtain ⟨r, more, rfl⟩ : ∃ r more, st = r :: more := by
              cases st with
              | cons r more => exact ⟨r, more, rfl⟩
              | nil =>
                unfold stepT at hstep
                rw [if_neg c1, if_neg c2, if_neg c3] at hstep
                cases hstep
            rw [step_word (okW_free hW)] at hstep
            cases hstep
            match as, hal with
            | a :: as, hal =>
            walk_at "g"
            refine w_ixL (lstOf hst.rl) (v := .ref a) (by rw [List.reverse_cons, List.map_append]; exact at_last2 _ _) ?_
            obtain ⟨vs0, ha0, _⟩ := hst.app (d := .none) .non rfl
            refine ⟨tyL ha0, ?_⟩
            walk_at "g"
            refine ⟨wd, rfl, hW, fun v H5 s5 hv => ?_⟩
            walk_at "g"
            obtain ⟨vs, ha, hvl, hst7⟩ := (hst.same s5).app hv (readW_imm _)
            have := hn2 r (by simp)
            refine ⟨a, vs, v, rfl, rfl, ha, by rw [sizeLine_eq]; omega, ?_⟩
            exact ⟨⟨_, _, rfl⟩, _, _, hrun', hst7, by omega, hn2'⟩
          · have c3 : TL.tl wd = [] := by simpa using c3
            rw [c3] at hstep
            have es : stepT st [] = some st := by simp [stepT]
            rw [es] at hstep
            cases hstep
            walk_at "g"
            exact ⟨⟨_, _, rfl⟩, as, st, hrun', hst, by omega, hn2'⟩
    · rintro σ Ha ⟨⟨x2, x3, rfl⟩, as, st, hrun, hst, hn1, hn2⟩
      rw [List.length_map, List.take_of_length_le (by omega), hR.run] at hrun
      cases hrun
      match as, hst with
      | [a], hst =>
      cases hst.rows with
      | @cons _ vs _ _ _ ha hd him tl =>
      cases hd with
      | @cons v _ _ _ hv hd =>
      cases hd
      have hrl : Ha RL = some (.lst [.ref a]) := hst.rl
      walk_at "g"
      refine w_lenL (lstOf hrl) ?_
      walk_at "g"
      refine w_ixL (lstOf hrl) (v := .ref a) rfl ?_
      walk_at "g"
      refine w_lenL (lstOf ha) ?_
      walk_at "g"
      refine w_ixL (lstOf hrl) (v := .ref a) rfl ?_
      walk_at "g"
      refine w_ixL (lstOf ha) (v := v) rfl ?_
      walk_at "g"
      refine isi_tuple hv ?_
      walk_at "g"
      refine ⟨true, rfl, fun _ => ?_, fun z => by cases z⟩
      walk_at "g"
      refine w_ixL (lstOf hrl) (v := .ref a) rfl ?_
      walk_at "g"
      refine w_ixL (lstOf ha) (v := v) rfl ?_
      exact q v Ha hst.fr hv
theorem ok_Board_names (T : Tx K mg) : OkM P w K mg base 1 "Board" "names" ["self"] (spBrdNames K) := by
  refine OkM.mk' T.M_Board_names T.F_Board_names (fun _ _ _ _ _ _ us hl => match us, hl with | [_], _ => rfl) sc_Board_names (fun vs H Q E h => ?_) (fun cdv A outer s H vs Q E hr h => ?_)
  · obtain ⟨b, L, N, t, past, rfl, hA, q⟩ := h
    rfl
  · obtain ⟨b, L, N, t, past, rfl, hA, q⟩ := h
    refine ⟨(tRet (tCB rSortDS (tCons (tFld K (tVar 0) "table") tNil))), (pss_one (ps_ret (pe_callB (call_sortedD rfl) (by rfl) T.Z_sorted (by decide +kernel) (pa_cons (pe_fld (pv 0) rfl) pa_nil)))), ?_⟩
    walk_at "0"
    obtain ⟨dx, d, ds, hb, hd, hL, hp⟩ := hA.ex
    obtain ⟨kvs, hk, hr2⟩ := hd.ex
    walk_at "g"
    refine w_tfld (w_var rfl ⟨b, _, dx, _, .ref d, rfl, hb, T.C_Board, T.N_Board_table, rfl, ?_⟩)
    exact w_sortT (.inl hk) hr2 hA.ok.len fun ys p H2 y s2 np hp2 => q ys p H2 y s2 np hp2
theorem okr_written (T : Tx K mg) : ∀ n : Nat, Ok P w K mg base (1 + n) "written" ["thing"] (spWrittenR K n) := by
  intro n
  induction n with
  | zero =>
    refine (Ok.bot T.G_written T.F_written (fun _ _ _ _ _ _ us hl => match us, hl with | [_], _ => rfl)).imp (fun vs H Q E h => ?_)
    obtain ⟨v, d, m, rfl, hd, hw, hm, hlen, q⟩ := h
    omega
  | succ n ih =>
  refine Ok.mk' (k := 1 + n) T.G_written T.F_written (fun _ _ _ _ _ _ us hl => match us, hl with | [_], _ => rfl) sc_written (fun vs H Q E h => ?_) (fun cdv A outer s H vs Q E hr h => ?_)
  · obtain ⟨v, d, m, rfl, hd, hw, hm, hlen, q⟩ := h
    rfl
  · obtain ⟨v, d, m, rfl, hd, hw, hm, hlen, q⟩ := h
    refine ⟨(tSeq (tIfS (tB (tCB (rIsi K) (tCons (tVar 0) (tCons (tC (.ty "tuple")) tNil)))) (tRet (tOp oAddS (tOp oAddS (tC (.str "(")) (tM1 (rJoin K) (tC (.str " ")) (tLc (iTup K (tVar 0)) (gName 1) tYes (tCall (spWrittenR K n) [] E0 (tCons (tVar 1) tNil)) [1]))) (tC (.str ")")))) tNext)
      (tRet (tIf (tB (tCB (rIsi K) (tCons (tVar 0) (tCons (tC (.ty "bool")) tNil)))) (tCB rStrIS (tCons (tCB cInt1 (tCons (tVar 0) tNil)) tNil)) (tCB rStrIS (tCons (tVar 0) tNil))))), (pss_cons (ps_if (pt_val (pe_callB call_isi (by rfl) T.Z_isinstance (by decide +kernel) (pa_cons (pv 0) (pa_cons (pe_bltn (v := .ty "tuple") (by rfl) T.Z_tuple (by decide +kernel) rfl) pa_nil)))) (pss_one (ps_ret (pe_op op_add_str (pe_op op_add_str pe_str (pe_join pe_str (pe_lc (own := [("one", 1)]) rfl sc_written.nd (pi_tup (pv 0)) (blkOk_by (own := [("one", 1)]) (N := ["thing", "one"]) (sc := defScope s_written) (by decide +kernel)) (fun _ _ _ _ _ => (pg_name (i := 1) sc_written.nd rfl (by first | exact Or.inl rfl | exact Or.inr rfl))) (fun _ _ _ _ _ => pts_nil) (fun _ _ _ _ _ => (pe_f ih hr pn0 (pa_cons (pv 1) pa_nil)))))) pe_str))) pss_nil)
      (pss_one (ps_ret (pe_ifExp (pt_val (pe_callB call_isi (by rfl) T.Z_isinstance (by decide +kernel) (pa_cons (pv 0) (pa_cons (pe_bltn (v := .ty "bool") (by rfl) T.Z_bool (by decide +kernel) rfl) pa_nil)))) (pe_callTy call_strIS (by rfl) T.Z_str (by decide +kernel) (pa_cons (pe_callTy call_int1 (by rfl) T.Z_int (by decide +kernel) (pa_cons (pv 0) pa_nil)) pa_nil)) (pe_callTy call_strIS (by rfl) T.Z_str (by decide +kernel) (pa_cons (pv 0) pa_nil)))))), ?_⟩
    walk_at "0"
    cases m with
    | zero => exact hw.elim
    | succ m =>
    walk_at "g"
    refine isi_tuple hd ?_
    walk_at "g"
    cases hT : isTupD d with
    | true =>
      obtain ⟨ds, rfl⟩ := is_tup hT
      obtain ⟨pa, xs, rfl, hpt, hxs⟩ := dp_tuple hd
      have hxl := dpAll_len hxs
      have hdl := hw.1
      have hsum := sum_wS ds
      have htail := tail_le ds
      have htl : (wTl ds).length ≤ (wTl ds).tail.length + 1 := by
        rw [List.length_tail]
        omega
      have hwl := wL_tup_len ds
      walk_at "g"
      refine w_m1' (w_c ⟨⟨_, rfl⟩, ?_⟩)
      walk_at "g"
      refine ⟨⟨_, hpt⟩, ?_⟩
      refine lc_pure (walk_tup (K := K) (a := pa) (xs := xs)) (by omega) (ds.map fun d => [V.str (wS d)]) (by rw [List.length_map]; omega) (fun H' s => RG.Same.tup s hpt) ?_ ?_
      · rintro C j acc y G' G'' hC hj hacc hG' iv ⟨rfl, hy⟩
        obtain ⟨e, he, hde⟩ := dpAll_getV hxs hy
        have hem := List.mem_of_getElem? he
        walk_at "g"
        refine ⟨rfl, ?_⟩
        walk_at "g"
        refine ⟨y, e, m, rfl, dp_s iv.1 hde, hw.2 e hem, by omega, by have := wL_in hem; omega, fun H2 s2 => ?_⟩
        exact lcp_nx hC (by omega) hacc hG' iv s2 (by rw [List.getElem?_map, he]; rfl)
      · intro C H2 nC s2 hC
        rw [flat_one (fun d => V.str (wS d))] at hC
        have hC' : H2 C = some (.lst ((ds.map wS).map V.str)) := by
          rw [hC, List.map_map]
          rfl
        refine w_join (lstOf hC') (by rw [List.length_map]; show _ + ds.length * 1 ≤ _; omega) ?_
        have e1 : (("(" : Str) ++ Txt.join " " (ds.map wS) ++ ")").length = (wL (.tuple ds)).length := by rw [wS_tup, wS_len]
        have e2 : (("(" : Str) ++ Txt.join " " (ds.map wS)).length + 1 = (wL (.tuple ds)).length := by
          rw [← e1, Str.length_append (a := ("(" : Str) ++ Txt.join " " (ds.map wS))]
          rfl
        have e3 : (Txt.join " " (ds.map wS)).length + 1 = (("(" : Str) ++ Txt.join " " (ds.map wS)).length := by
          rw [Str.length_append, Nat.add_comm]
          rfl
        refine ⟨_, _, rfl, rfl, by show 1 + _ ≤ sizeLine; rw [sizeLine_eq]; omega, ?_⟩
        walk_at "g"
        refine ⟨_, _, rfl, rfl, by show _ + 1 ≤ sizeLine; rw [sizeLine_eq]; omega, ?_⟩
        rw [wS_tup]
        exact q _ s2
    | false =>
      walk_at "g"
      refine isi_bool hd ?_
      walk_at "g"
      cases d with
      | bool b =>
        obtain rfl := dp_blB hd
        walk_at "g"
        refine w_strI (by cases b <;> decide) ?_
        walk_at "g"
        have e : wS (.bool b) = (toString (((if b = true then 1 else 0 : Nat)) : Int) : Str) := wS_int.symm
        have e2 : (((if b = true then 1 else 0 : Nat)) : Int) = (if b = true then (1 : Int) else 0) := by cases b <;> rfl
        rw [e2] at e
        have q := q H (Same.refl _)
        rw [e] at q
        exact q
      | int i =>
        obtain rfl := dp_int hd
        walk_at "g"
        refine w_strI (log_small hw.1 hw.2) ?_
        walk_at "g"
        have e : wS (.int i) = (toString ((i.toNat : Nat) : Int) : Str) := wS_int.symm
        rw [show ((i.toNat : Nat) : Int) = i by have := hw.1; omega] at e
        have q := q H (Same.refl _)
        rw [e] at q
        exact q
      | str z =>
        obtain rfl := dp_str hd
        walk_at "g"
        refine w_strS ?_
        walk_at "g"
        have q := q H (Same.refl _)
        rw [show wS (.str z) = z from TL.mk_tl z] at q
        exact q
      | tuple ds => cases hT
      | none => exact hw.elim
      | list _ => exact hw.elim
      | dict _ => exact hw.elim
theorem ok_written (T : Tx K mg) : Ok P w K mg base 13 "written" ["thing"] (spWrittenR K 12) := okr_written T 12
theorem ok_Board_switch (T : Tx K mg) : OkM P w K mg base 3 "Board" "switch" ["self", "name"] (spBrdSwitch K) := by
  refine OkM.mk' T.M_Board_switch T.F_Board_switch (fun _ _ _ _ _ _ us hl => match us, hl with | [_, _], _ => rfl) sc_Board_switch (fun vs H Q E h => ?_) (fun cdv A outer s H vs Q E hr h => ?_)
  · obtain ⟨b, L, N, t, past, v, d, rfl, hA, hv, hfs, q1, q2⟩ := h
    rfl
  · obtain ⟨b, L, N, t, past, v, d, rfl, hA, hv, hfs, q1, q2⟩ := h
    refine ⟨(tSeq (tDrop (tMeth (He.ga K "Board") "need_switch" (spBrdNeed K) [] E (tVar 0) (tCons (tVar 1) tNil)))
      (tRet (tDGet (tFld K (tVar 0) "table") (tVar 1)))), (pss_cons (ps_expr (pe_m (ok_Board_need_switch T) T.C_Board hr (pnx (L2N.takes_of rfl rfl rfl rfl)) (pv 0) (pa_cons (pv 1) pa_nil)))
      (pss_one (ps_ret (pe_dget (hu1 hr) (pe_fld (pv 0) rfl) (pv 1) (fun _ _ => rfl))))), ?_⟩
    walk_at "0"
    obtain ⟨dx, d', ds, hb, hd, hL, hp⟩ := hA.ex
    walk_at "p"
    refine w_meth (w_var rfl ⟨b, dx, _, rfl, hb, rfl, ?_⟩)
    walk_at "g"
    refine ⟨b, L, N, t, past, v, d, rfl, hA, hv, hfs, fun hs H1 s1 => ?_, q2⟩
    obtain ⟨z, rfl, hz⟩ := isSwT_str hs
    cases dp_str hv
    obtain ⟨r, er⟩ := rowOf_some.mpr hz
    obtain ⟨kvs, hk, hr2⟩ := hd.ex
    obtain ⟨u, eu, hu⟩ := hr2.val er
    walk_at "p"
    refine w_dget (w_tfld (w_var rfl ⟨b, _, dx, _, .ref d', rfl, s1 _ _ hb, T.C_Board, T.N_Board_table, rfl, w_var rfl ?_⟩))
    refine a_dgetS (.inl (s1 _ _ hk)) eu ?_
    exact q1 z r rfl er u H1 s1 (dp_s s1 hu)
theorem ok_saved (T : Tx K mg) : Ok P w K mg base 14 "saved" ["board"] (spSaved K) := by
  refine Ok.mk' T.G_saved T.F_saved (fun _ _ _ _ _ _ us hl => match us, hl with | [_], _ => rfl) sc_saved (fun vs H Q E h => ?_) (fun cdv A outer s H vs Q E hr h => ?_)
  · obtain ⟨b, L, N, t, past, rfl, hA, q⟩ := h
    rfl
  · obtain ⟨b, L, N, t, past, rfl, hA, q⟩ := h
    refine ⟨(tRet (tOp oAddS (tM1 (rJoin K) (tC (.str "")) (tLc (iList K (tMeth (He.ga K "Board") "names" (spBrdNames K) [] E (tVar 0) tNil)) (gName 1) tYes (tFs [(tFmt (tVar 1)), (tC (.str "=")), (tFmt (tCall (spWrittenR K 12) [] E0 (tCons (tMeth (He.ga K "Board") "switch" (spBrdSwitch K) [] E0 (tVar 0) (tCons (tVar 1) tNil)) tNil))), (tC (.str ";"))]) [1])) (tC (.str ".")))), (pss_one (ps_ret (pe_op op_add_str (pe_join pe_str (pe_lc (own := [("name", 1)]) rfl sc_saved.nd (pi_list (pe_m0 (ok_Board_names T) T.C_Board hr (pnx (L2N.takes_of rfl rfl rfl rfl)) (pv 0))) (blkOk_by (own := [("name", 1)]) (N := ["board", "name"]) (sc := defScope s_saved) (by decide +kernel)) (fun _ _ _ _ _ => (pg_name (i := 1) sc_saved.nd rfl (by first | exact Or.inl rfl | exact Or.inr rfl))) (fun _ _ _ _ _ => pts_nil) (fun _ _ _ _ _ => (pe_joined (L2.PJ.cons (pe_fmt (pv 1)) (L2.PJ.cons pe_str (L2.PJ.cons (pe_fmt (pe_f (ok_written T) hr pn0 (pa_cons (pe_m (ok_Board_switch T) T.C_Board hr pn0 (pv 0) (pa_cons (pv 1) pa_nil)) pa_nil))) (L2.PJ.cons pe_str L2.PJ.nil)))))))) (pe_gs T.S_END)))), ?_⟩
    walk_at "0"
    obtain ⟨dx, d, ds, hb, hd, hL, hp⟩ := hA.ex
    have ok := hA.ok
    have hok := ok.len
    walk_at "g"
    refine w_m1' (w_c ⟨⟨_, rfl⟩, ?_⟩)
    walk_at "g"
    refine w_meth (w_var rfl ⟨b, dx, _, rfl, hb, rfl, ?_⟩)
    walk_at "g"
    refine ⟨b, L, N, t, past, rfl, hA, fun ys G H1 y s1 nG hG => ?_⟩
    have hyl := y.len
    have hym : ∀ n ∈ ys, n ∈ namesT t := fun n hn => y.mem.mp hn
    refine ⟨G, rfl, ⟨_, lstOf hG⟩, ?_⟩
    refine lc_pure (walk_list (K := K) (a := G) (xs := ys.map V.str)) (by rw [List.length_map]; omega) (ys.map fun n => [V.str (rowS t n)]) (by rw [List.length_map, List.length_map]) (fun H' s => lstOf (s _ _ hG)) ?_ ?_
    · rintro C j acc x G' G'' hC hj hacc hG' iv ⟨rfl, hx⟩
      rw [List.length_map] at hj
      rw [List.getElem?_map] at hx
      obtain ⟨z, hz, rfl⟩ := Option.map_eq_some_iff.mp hx
      have hzm := hym z (List.mem_of_getElem? hz)
      have hzl := name_len (ok.nm z hzm)
      have s1i := s1.trans iv.1
      have hA2 := hA.s s1i
      obtain ⟨r, er⟩ := rowOf_some.mpr hzm
      obtain ⟨w1, w2, _⟩ := row_dat_wr ok er
      obtain ⟨dx2, _, _, hb2, _⟩ := hA2.ex
      walk_at "g"
      refine ⟨rfl, ?_⟩
      walk_at "g"
      refine w_fs (w_jcons (w_fmt (w_var rfl (.inl ⟨z, rfl, by rw [sizeLine_eq]; omega, ?_⟩))))
      refine ⟨_, rfl, by rw [sizeLine_eq, Str.length_append]; show 0 + _ ≤ _; omega, w_jcons (w_c ?_)⟩
      refine ⟨_, rfl, by rw [sizeLine_eq, Str.length_append, Str.length_append]; show 0 + _ + 1 ≤ _; omega, w_jcons (w_fmt ?_)⟩
      walk_at "g"
      refine w_meth (w_var rfl ⟨b, dx2, _, rfl, hb2, rfl, ?_⟩)
      walk_at "g"
      refine ⟨b, L, N, t, past, .str z, .str z, rfl, hA2, .str z, Nat.le_trans hzl (by decide), fun z' r' ez er' u H2 s2 hu => ?_, fun hno => absurd (show isSwT t (.str z) = true from decide_eq_true hzm) (by rw [hno]; simp)⟩
      cases ez
      cases er.symm.trans er'
      walk_at "g"
      refine ⟨u, r.dat, 10, rfl, hu, w1, by decide, by omega, fun H3 s3 => ?_⟩
      have wl := wS_len r.dat
      refine .inl ⟨_, rfl, by rw [sizeLine_eq]; omega, _, rfl, by rw [sizeLine_eq, Str.length_append, Str.length_append, Str.length_append]; show 0 + _ + 1 + _ ≤ _; omega, w_jcons (w_c ?_)⟩
      refine ⟨_, rfl, by rw [sizeLine_eq, Str.length_append, Str.length_append, Str.length_append, Str.length_append]; show 0 + _ + 1 + _ + 1 ≤ _; omega, w_jnil ?_⟩
      have e : Str.empty ++ z ++ ("=" : Str) ++ wS r.dat ++ (";" : Str) = rowS t z := by
        refine TL.ext_tl ?_
        simp only [TL.tl_append]
        show [] ++ TL.tl z ++ [61] ++ wL r.dat ++ [59] = rowL t z
        unfold rowL datOf
        rw [er]
        simp
      rw [e]
      exact lcp_nx hC (by omega) hacc hG' iv (s2.trans s3) (by rw [List.getElem?_map, hz]; rfl)
    · intro C H2 nC s2 hC
      rw [flat_one (fun n => V.str (rowS t n))] at hC
      have hC' : H2 C = some (.lst ((ys.map (rowS t)).map V.str)) := by
        rw [hC, List.map_map]
        rfl
      have hsum := rows_sum ok hym
      have hjl := join_nil_len (ys.map (rowS t))
      refine w_join (lstOf hC') (by show _ + (ys.map (rowS t)).length * 0 ≤ _; omega) ?_
      walk_at "g"
      refine ⟨_, _, rfl, rfl, by show _ + 1 ≤ sizeLine; rw [sizeLine_eq]; omega, ?_⟩
      rw [savS_eq]
      exact q ys H2 y (s1.trans s2)
theorem ok_woken (T : Tx K mg) : Ok P w K mg base 15 "woken" ["text"] (spWoken K) := by
  refine Ok.mk' T.G_woken T.F_woken (fun _ _ _ _ _ _ us hl => match us, hl with | [_], _ => rfl) sc_woken (fun vs H Q E h => ?_) (fun cdv A outer s H vs Q E hr h => ?_)
  · obtain ⟨v, d, rfl, hd, hlen, h⟩ := h
    rfl
  · obtain ⟨v, d, rfl, hd, hlen, h⟩ := h
    refine ⟨(tSeq (tDrop (tCall (spNeedT K) [] E (tCons (tAndV (tCB (rIsi K) (tCons (tVar 0) (tCons (tC (.ty "str")) tNil))) (tAndV (tOp rEq (tSl rSlS (tVar 0) (tPart (tUn (rU fun i => .int (-i)) (tC (.int 1)))) tNoPart) (tC (.str "."))) (tOrV (tOp rEq (tVar 0) (tC (.str "."))) (tOp rEq (tOp rIxS (tVar 0) (tUn (rU fun i => .int (-i)) (tC (.int 2)))) (tC (.str ";")))))) tNil)))
      (tSeq (tPar 1 2 (tCons (tMake (He.ga K "Board") (spBrdInit K) [] E tNil) (tCons (tLst tNil) tNil)))
      (tSeq (tSeq (tFor (iList K (tSl (rSlL K) (tM1 rSplit (tSl rSlS (tVar 0) tNoPart (tPart (tUn (rU fun i => .int (-i)) (tC (.int 1))))) (tC (.str ";"))) tNoPart (tPart (tUn (rU fun i => .int (-i)) (tC (.int 1)))))) (gName 3) (tSeq (tAsg (tM1 rPart (tVar 3) (tC (.str "="))) (gTup K 3 (gCons (gName 4) (gCons (gName 5) (gCons (gName 6) gNil)))))
      (tSeq (tAsg (tCall (spRead K) [] E0 (tCons (tVar 6) tNil)) (gName 7))
      (tSeq (tDrop (tCall (spNeedT K) [] E0 (tCons (tOp rEq (tCB (cLen K) (tCons (tVar 7) tNil)) (tC (.int 4))) tNil)))
      (tSeq (tDrop (tMeth (He.ga K "Board") "put" (spBrdPut K) [] E0 (tVar 1) (tCons (tVar 4) (tCons (tOp (rIxT K) (tVar 7) (tC (.int 0))) (tCons (tOp (rIxT K) (tVar 7) (tC (.int 1))) tNil)))))
      (tDrop (tBM K "list" rAppend (tVar 2) (tCons (tTup (tCons (tVar 4) (tCons (tOp (rIxT K) (tVar 7) (tC (.int 2))) (tCons (tOp rEq (tOp (rIxT K) (tVar 7) (tC (.int 3))) (tC (.int 1))) tNil)))) tNil))))))))
      (tFor (iList K (tVar 2)) (gTup K 3 (gCons (gName 4) (gCons (gName 8) (gCons (gName 9) gNil)))) (tSeq (tDrop (tMeth (He.ga K "Board") "need" (spBrdNeeds K) [] E0 (tVar 1) (tCons (tVar 4) (tCons (tVar 8) tNil))))
      (tDrop (tMeth (He.ga K "Board") "dark" (spBrdDark K) [] E0 (tVar 1) (tCons (tVar 4) (tCons (tVar 9) tNil)))))))
      (tSeq (tDrop (tCall (spNeedT K) [] E (tCons (tOp rEq (tCall (spSaved K) [] E (tCons (tVar 1) tNil)) (tVar 0)) tNil)))
      (tSeq (sFld K (tVar 1) (tLst tNil) "past")
      (tRet (tVar 1))))))), (pss_cons (ps_expr (pe_f (ok_need T) hr (pnx (L2N.takes_of rfl rfl rfl rfl)) (pa_cons (pe_and (pe_callB call_isi (by rfl) T.Z_isinstance (by decide +kernel) (pa_cons (pv 0) (pa_cons (pe_bltn (v := .ty "str") (by rfl) T.Z_str (by decide +kernel) rfl) pa_nil))) (pe_and (pe_cmpR op_eq (pe_slice sl_str (pv 0) (po_some (pe_un un_neg pe_int)) po_none) (pe_gs T.S_END) (nomark _)) (pe_one (pe_or (pe_cmpR op_eq (pv 0) (pe_gs T.S_END) (nomark _)) (pe_one (pe_cmpR op_eq (pe_ix ix_str (pv 0) (pe_un un_neg pe_int) (fun _ _ => rfl)) pe_str (nomark _))))))) pa_nil)))
      (pss_cons (ps_par (by rfl) sc_woken.nd rfl rfl (by decide) rfl rfl (pa_cons (pe_new0 (ok_Board___init__ T) T.K_Board T.G_Board hr (pnx (L2N.takes_of rfl rfl rfl rfl))) (pa_cons (pe_lst pa_nil) pa_nil)) (by rfl))
      (pss_cons (ps_try_thru0 (pss_cons (ps_for passes_no rfl (pi_list (pe_slice sl_list (pe_split (pe_slice sl_str (pv 0) po_none (po_some (pe_un un_neg pe_int))) pe_str) po_none (po_some (pe_un un_neg pe_int)))) (pg_name (i := 3) sc_woken.nd rfl (by first | exact Or.inl rfl | exact Or.inr rfl)) (pss_cons (ps_asg (pe_partition (pv 3) pe_str) (pg_tup (by rfl) (pgs_cons (pg_name (i := 4) sc_woken.nd rfl (by first | exact Or.inl rfl | exact Or.inr rfl)) (pgs_cons (pg_name (i := 5) sc_woken.nd rfl (by first | exact Or.inl rfl | exact Or.inr rfl)) (pgs_cons (pg_name (i := 6) sc_woken.nd rfl (by first | exact Or.inl rfl | exact Or.inr rfl)) pgs_nil)))))
      (pss_cons (ps_set (i := 7) sc_woken.nd rfl (by first | exact Or.inl rfl | exact Or.inr rfl) (pe_f (ok_read T) hr pn0 (pa_cons (pv 6) pa_nil)))
      (pss_cons (ps_expr (pe_f (ok_need T) hr pn0 (pa_cons (pe_cmpR op_eq (pe_callB call_len (by rfl) T.Z_len (by decide +kernel) (pa_cons (pv 7) pa_nil)) pe_int (nomark _)) pa_nil)))
      (pss_cons (ps_expr (pe_m (ok_Board_put T) T.C_Board hr pn0 (pv 1) (pa_cons (pv 4) (pa_cons (pe_ix ix_tup (pv 7) pe_int (fun _ _ => rfl)) (pa_cons (pe_ix ix_tup (pv 7) pe_int (fun _ _ => rfl)) pa_nil)))))
      (pss_one (ps_expr (pe_bm PySem.F.plainAttrs_list PySem.F.slot_list_append PySem.F.type_list_append mt_append (pv 2) (pa_cons (pe_tup (pa_cons (pv 4) (pa_cons (pe_ix ix_tup (pv 7) pe_int (fun _ _ => rfl)) (pa_cons (pe_cmpR op_eq (pe_ix ix_tup (pv 7) pe_int (fun _ _ => rfl)) pe_int (nomark _)) pa_nil)))) pa_nil)))))))))
      (pss_one (ps_for passes_no rfl (pi_list (pv 2)) (pg_tup (by rfl) (pgs_cons (pg_name (i := 4) sc_woken.nd rfl (by first | exact Or.inl rfl | exact Or.inr rfl)) (pgs_cons (pg_name (i := 8) sc_woken.nd rfl (by first | exact Or.inl rfl | exact Or.inr rfl)) (pgs_cons (pg_name (i := 9) sc_woken.nd rfl (by first | exact Or.inl rfl | exact Or.inr rfl)) pgs_nil)))) (pss_cons (ps_expr (pe_m (ok_Board_need T) T.C_Board hr pn0 (pv 1) (pa_cons (pv 4) (pa_cons (pv 8) pa_nil))))
      (pss_one (ps_expr (pe_md2 (ok_Board_dark T) T.C_Board hr pn0 (pv 1) (pa_cons (pv 4) (pa_cons (pv 9) pa_nil))))))))))
      (pss_cons (ps_expr (pe_f (ok_need T) hr (pnx (L2N.takes_of rfl rfl rfl rfl)) (pa_cons (pe_cmpR op_eq (pe_f (ok_saved T) hr (pnx (L2N.takes_of rfl rfl rfl rfl)) (pa_cons (pv 1) pa_nil)) (pv 0) (nomark _)) pa_nil)))
      (pss_cons (ps_fld (pv 1) (pe_lst pa_nil) rfl)
      (pss_one (ps_ret (pv 1)))))))), ?_⟩
    walk_at "0"
    rcases h with ⟨hno, qE⟩ | ⟨t, ys, rfl, ok, y, qq⟩
    · walk_at "p"
      refine w_call (w_cons ?_)
      cases hS : isStrD d with
      | false =>
        walk_at "g"
        refine isi_str hd ?_
        rw [hS]
        walk_at "g"
        exact ⟨false, rfl, (fun z => by cases z), fun _ => qE _ (Same.refl _)⟩
      | true =>
        obtain ⟨z, rfl⟩ := is_str hS
        cases dp_str hd
        walk_at "g"
        refine isi_str hd ?_
        rw [hS]
        walk_at "g"
        refine ⟨z, rfl, by rw [sizeLine_eq]; exact Nat.le_trans hlen (by decide), ?_⟩
        walk_at "g"
        rw [last_dot, decide_eq_false hno]
        walk_at "g"
        exact ⟨false, rfl, (fun z => by cases z), fun _ => qE _ (Same.refl _)⟩
    · have hzl := savS_len ok y
      have hsz : (savS t ys).length ≤ sizeLine := by
        rw [sizeLine_eq]
        omega
      have hym : ∀ n ∈ ys, n ∈ namesT t := fun n hn => y.mem.mp hn
      have hyl := y.len
      have htl := ok.len
      obtain rfl := dp_str hd
      refine seq_mid (fun σ H' => σ = [some (.str (savS t ys)), none, none, none, none, none, none, none, none, none] ∧ H' = H) (fun R hR => ?_) ?_
      · walk_at "p"
        refine w_call (w_cons ?_)
        walk_at "g"
        refine isi_str hd ?_
        walk_at "g"
        refine ⟨_, rfl, hsz, ?_⟩
        walk_at "g"
        rw [last_dot, decide_eq_true (show (TL.tl (savS t ys)).getLast? = some 46 from savL_last t ys)]
        walk_at "g"
        refine if_b (fun c1 => ?_) (fun c1 => ?_)
        · walk_at "g"
          exact ⟨true, rfl, fun _ => hR _ _ ⟨rfl, rfl⟩, fun z => by cases z⟩
        · have hne : ys ≠ [] := by
            rcases savS_dot (t := t) (ys := ys) with h | h
            · rw [h] at c1
              cases c1
            · exact h
          walk_at "g"
          refine ⟨_, _, 59, rfl, rfl, hsz, before_last hne, ?_⟩
          walk_at "g"
          exact ⟨true, rfl, fun _ => hR _ _ ⟨rfl, rfl⟩, fun z => by cases z⟩
      rintro σ H' ⟨rfl, rfl⟩
      walk_at "g"
      refine w_board fun b dd L H1 s1 nb nd nL hdd hB => ?_
      walk_at "g"
      refine w_newL (by simp) fun ND H2 s2 nND hND => ?_
      walk_at "g"
      refine w_m1' ?_
      walk_at "g"
      refine ⟨_, rfl, hsz, ?_⟩
      refine ⟨⟨_, rfl⟩, w_c ?_⟩
      have hz1 : TL.tl (cutS (savS t ys) none (some (-1))) = ys.flatMap (rowL t) := by
        rw [tl_butl]
        show (savL t ys).dropLast = _
        unfold savL
        rw [List.dropLast_concat]
      have hz2 := cutS_length (savS t ys) none (some (-1))
      refine w_split rfl (by rw [sizeLine_eq]; omega) fun SP H3 s3 nSP hSP => ?_
      rw [split_rows ok hym hz1, List.map_append] at hSP
      walk_at "g"
      refine ⟨SP, _, rfl, lstOf hSP, fun RW nRW => ?_⟩
      rw [cutV_butl, List.map_cons, List.map_nil, List.dropLast_concat]
      have s4 : Same H3 (upd H3 RW (.lst ((ys.map (rowT t)).map V.str))) := Same.new nRW
      have hRW : (upd H3 RW (.lst ((ys.map (rowT t)).map V.str))) RW = some (.lst ((ys.map (rowT t)).map V.str)) := upd_same
      generalize upd H3 RW (.lst ((ys.map (rowT t)).map V.str)) = H4 at s4 hRW
      have s24 := s3.trans s4
      have st0 : WkSt K H' H4 b L ND RW ((ys.map (rowT t)).map V.str) [] [] [] := by
        have hB1 := hB (fun x => ∃ o, H' x = some o) (fun x hx e => by
          obtain ⟨o, ho⟩ := hx
          rw [e, nd] at ho
          cases ho)
        obtain ⟨_, _, _, _, _, hL1, _⟩ := hB1.ex
        refine ⟨(s1.trans s2).trans s24, (hB1.s s2).s s24, nb, nL, ⟨[], s24 _ _ hND, .nil⟩, rfl, s1.free nND, hRW, fun e => ?_, fun e => ?_, fun e => ?_⟩
        · rw [e, hL1] at nND
          cases nND
        · rw [e, s3 _ _ (s2 _ _ hL1)] at nRW
          cases nRW
        · rw [e, s3 _ _ hND] at nRW
          cases nRW
      refine ⟨RW, rfl, ⟨_, lstOf hRW⟩, ?_⟩
      clear hSP hRW hND
      refine for_go (walk_list (K := K) (a := RW) (xs := (ys.map (rowT t)).map V.str)) (fun i σ Hi => (∃ x3 x4 x5 x6 x7, σ = [some (.str (savS t ys)), some (.ref b), some (.ref ND), x3, x4, x5, x6, x7, none, none]) ∧ ∃ u past, WkSt K H' Hi b L ND RW ((ys.map (rowT t)).map V.str) u past ((ys.take i).map (ndD t)) ∧ Put1 t ys u i ∧ past.length ≤ i) ⟨⟨_, _, _, _, _, rfl⟩, [], [], by simpa using st0, ⟨by simp [namesT], by simp⟩, by simp⟩ (fun i σ Hi _ h => by
        obtain ⟨_, u, past, s', _⟩ := h
        exact lstOf s'.hW) ?_ ?_
      · rintro i x σ Ha' Ha hi ⟨⟨x3, x4, x5, x6, x7, rfl⟩, u, past, st, p1, hpl⟩ ⟨rfl, hxi⟩
        rw [List.getElem?_map, List.getElem?_map] at hxi
        obtain ⟨rw1, hrw1, rfl⟩ := Option.map_eq_some_iff.mp hxi
        obtain ⟨z, hz, rfl⟩ := Option.map_eq_some_iff.mp hrw1
        rw [List.length_map, List.length_map] at hi
        have hzm := hym z (List.mem_of_getElem? hz)
        obtain ⟨r, er⟩ := rowOf_some.mpr hzm
        have hro := ok.row z r er
        have hrd := rd_row ok er
        have hdl := (datOf_wr ok hzm).2
        have hwl := wS_len (datOf t z)
        have hfs : fitS (.str z) := Nat.le_trans (name_len (ok.nm z hzm)) (by decide)
        have hrl : (rowT t z).length ≤ 511010 := by
          have h1 := rowL_len ok hzm
          rw [rowL_eq, List.length_append] at h1
          rw [TL.len_tl]
          show (rowQ t z).length ≤ _
          omega
        have him : imm (.tuple [r.deal, r.rules, .tuple (r.needs.map PyData.str), .int (if r.dim = true then 1 else 0)]) = true := by simp only [imm, immAll, deal_imm hro.deal, hro.im, imm_strs, Bool.and_self]
        have etk : (ys.take (i + 1)).map (ndD t) = (ys.take i).map (ndD t) ++ [ndD t z] := by
          rw [List.take_add_one, hz, List.map_append]
          rfl
        have end_ : ndD t z = .tuple [.str z, .tuple (r.needs.map PyData.str), .bool r.dim] := by
          unfold ndD
          rw [er]
        obtain ⟨eput, p1'⟩ := put1_step ok y p1 hz er
        walk_at "g"
        refine w_m1' (w_var rfl ⟨⟨_, rfl⟩, w_c ?_⟩)
        refine w_partS rfl (by rw [sizeLine_eq]; omega) fun PT H5 s5 nPT hPT => ?_
        rw [part_row ok hzm] at hPT
        refine w_gtup (tupOf hPT) rfl ?_
        walk_at "g"
        refine ⟨wS (datOf t z), _, rfl, by omega, hrd, fun v H6 s6 hv => ?_⟩
        have st6 := (st.same s5).same s6
        walk_at "g"
        refine w_lenD hv ?_
        walk_at "g"
        refine ⟨true, rfl, fun _ => ?_, fun z => by cases z⟩
        obtain ⟨dx, _, _, hb, _⟩ := st6.A.ex
        walk_at "g"
        refine w_meth (w_var rfl ⟨b, dx, _, rfl, hb, rfl, ?_⟩)
        walk_at "g"
        refine w_ixD0 hv fun ud hud => ?_
        walk_at "g"
        refine w_ixD1 hv fun ur hur => ?_
        walk_at "g"
        refine ⟨b, L, _, u, past, .str z, .str z, ud, r.deal, ur, r.rules, rfl, st6.A, .str z, hfs, hud, hur, hro.ok, fun _ => hro.im, st6.st, by omega, ?_⟩
        rw [eput]
        intro H7 k7 hB7
        have st7 := st6.bd k7 hB7
        have hv7 := dp_tups (kpb_tups (K := K) k7.kpb st6.A.ntA') him hv
        obtain ⟨vsN, hvsN, _⟩ := st7.hN
        walk_at "g"
        refine ⟨tyL hvsN, ?_⟩
        walk_at "g"
        refine w_ixD2 hv7 fun un hun => ?_
        walk_at "g"
        refine w_ixD (j := 3) hv7 rfl fun ub hub => ?_
        obtain rfl := dp_int hub
        walk_at "g"
        have edim : decide ((if r.dim = true then (1 : Int) else 0) = 1) = r.dim := by cases r.dim <;> rfl
        rw [edim]
        refine w_newT (by simp) fun tp H8 s8 ntp htp => ?_
        have hdt : Dp K H8 (.ref tp) (ndD t z) := by
          rw [end_]
          exact .tup (tupOf htp) (.cons (.str _) (.cons (dp_s s8 hun) (.cons (.bl _) .nil)))
        obtain ⟨vs, hvs, hvl, st9⟩ := (st7.same s8).app hdt (immAll_get (ndD_imm t [z]) (by simp))
        walk_at "g"
        refine ⟨ND, vs, .ref tp, rfl, rfl, hvs, by rw [hvl, List.length_map, List.length_take, sizeLine_eq]; omega, ?_⟩
        refine ⟨⟨_, _, _, _, _, rfl⟩, _, past ++ [u], ?_, p1', by rw [List.length_append, List.length_singleton]; omega⟩
        rw [etk]
        exact st9
      · rintro σ Ha ⟨⟨x3, x4, x5, x6, x7, rfl⟩, u, past, st, p1, hpl⟩
        rw [List.length_map, List.length_map] at p1 st hpl
        have p2 := p1.two y
        rw [List.take_length] at st
        obtain ⟨vs, hvs, hdv⟩ := st.hN
        have hvl := dpAll_len hdv
        rw [List.length_map] at hvl
        walk_at "g"
        refine ⟨⟨_, lstOf hvs⟩, ?_⟩
        refine for_go (walk_list (K := K) (a := ND) (xs := vs)) (fun i σ Hi => (∃ x4 x8 x9, σ = [some (.str (savS t ys)), some (.ref b), some (.ref ND), x3, x4, x5, x6, x7, x8, x9]) ∧ Hi ND = some (.lst vs) ∧ DpAll K Hi vs (ys.map (ndD t)) ∧ ∃ u past, WkSt K H' Hi b L ND RW ((ys.map (rowT t)).map V.str) u past (ys.map (ndD t)) ∧ Put2 t ys u i ∧ past.length ≤ 12 + 2 * i) ⟨⟨_, _, _, rfl⟩, hvs, hdv, u, past, st, p2, by omega⟩ (fun i σ Hi _ h => lstOf h.2.1) ?_ ?_
        · rintro i x σ Hb' Hb hi ⟨⟨x4', x8, x9, rfl⟩, hvsb, hdvb, u, past, st, p2, hpl⟩ ⟨rfl, hxi⟩
          obtain ⟨e, he, hde⟩ := dpAll_getV hdvb hxi
          rw [List.getElem?_map] at he
          obtain ⟨z, hz, rfl⟩ := Option.map_eq_some_iff.mp he
          have hzm := hym z (List.mem_of_getElem? hz)
          obtain ⟨r, er⟩ := rowOf_some.mpr hzm
          have hro := ok.row z r er
          have hfs : fitS (.str z) := Nat.le_trans (name_len (ok.nm z hzm)) (by decide)
          have hfn : fitN (.tuple (r.needs.map PyData.str)) := by
            have := needs_len ok er
            refine ⟨by rw [List.length_map]; omega, fun e he => ?_⟩
            obtain ⟨m, hm, rfl⟩ := List.mem_map.mp he
            exact Nat.le_trans (name_len (ok.nm m (hro.mem m hm))) (by decide)
          obtain ⟨en, ed, p2'⟩ := put2_step ok y p2 hz er
          rw [show ndD t z = .tuple [.str z, .tuple (r.needs.map PyData.str), .bool r.dim] by unfold ndD; rw [er]] at hde
          obtain ⟨pa, xs, rfl, hpt, hxs⟩ := dp_tuple hde
          cases hxs with
          | cons a1 hxs =>
          cases hxs with
          | cons a2 hxs =>
          cases hxs with
          | cons a3 hxs =>
          cases hxs
          obtain rfl := dp_str a1
          obtain rfl := dp_blB a3
          refine w_gtup hpt rfl ?_
          obtain ⟨dx, _, _, hb, _, hL, _⟩ := st.A.ex
          walk_at "g"
          refine w_meth (w_var rfl ⟨b, dx, _, rfl, hb, rfl, ?_⟩)
          walk_at "g"
          refine ⟨b, L, _, u, past, .str z, .str z, _, .tuple (r.needs.map PyData.str), rfl, st.A, .str z, hfs, a2, hfn, st.st, by omega, ?_⟩
          rw [en]
          intro H5 k5 hB5
          have st5 := st.bd k5 hB5
          have hv5 := k5 _ _ hvsb (ne_of hvsb hb (by intro z; cases z)) st.d1
          have hd5 := dps_tups (kpb_tups (K := K) k5.kpb st.A.ntA') st.im hdvb
          generalize putT u z { bareR r with needs := r.needs } = u1 at hB5 st5 ed p2'
          obtain ⟨dx5, _, _, hb5, _⟩ := st5.A.ex
          walk_at "g"
          refine w_meth (w_var rfl ⟨b, dx5, _, rfl, hb5, rfl, ?_⟩)
          walk_at "g"
          refine ⟨b, L, _, u1, _, .str z, .str z, .bl r.dim, .bool r.dim, rfl, st5.A, .str z, hfs, .bl _, st5.st, by rw [List.length_append, List.length_singleton]; omega, ?_⟩
          rw [ed]
          intro H6 k6 hB6
          have st6 := st5.bd k6 hB6
          walk_at "g"
          exact ⟨⟨_, _, _, rfl⟩, k6 _ _ hv5 (ne_of hv5 hb5 (by intro z; cases z)) st.d1, dps_tups (kpb_tups (K := K) k6.kpb st5.A.ntA') st.im hd5, _, _, st6, p2', by rw [List.length_append, List.length_append, List.length_singleton, List.length_singleton]; omega⟩
        · rintro σ Hb ⟨⟨x4', x8, x9, rfl⟩, hvsb, hdvb, u, past, st, p2, hpl⟩
          rw [hvl] at p2
          have all := p2.all ok y
          have yU : SrtT u ys := ⟨by rw [p2.nm], y.srt⟩
          walk_at "g"
          refine ⟨b, L, _, u, past, rfl, st.A, fun ys' H5 y' s5 => ?_⟩
          cases y'.uniq st.A.ok yU
          rw [savS_same all]
          walk_at "g"
          refine ⟨true, by rw [decide_eq_true rfl], fun _ => ?_, fun z => by cases z⟩
          have st5 := st.same s5
          obtain ⟨dx, d', ds, hb, hd', hL, hp⟩ := st5.A.ex
          walk_at "p"
          refine w_sfld ?_
          walk_at "g"
          refine w_newL (by simp) fun L2 H6 s6 nL2 hL2 => w_var rfl ⟨b, _, dx, _, rfl, s6 _ _ hb, T.C_Board, T.N_Board_past, by simp, ?_⟩
          have hd6 := (DicAt.keep hd' st5.A.ok (fun kvs z => s6 _ _ z) (fun _ _ z => RG.Same.tup s6 z) : DicAt K _ H6 d' u)
          obtain ⟨kvs, hk6, _⟩ := hd6.ex
          have hb6 := s6 _ _ hb
          have nt : NtA (fun y => y = b) H6 := fun x o hx ho => by
            rw [show x = b from hx, hb6] at ho
            cases ho
            exact trivial
          walk_at "g"
          have ko : KpB (fun y => y = b) H6 (upd H6 b (.ins (He.ga K "Board") dx (putF "past" (.ref L2) [("table", .ref d'), ("past", .ref L)]))) := Oth.kpb (p := b) Oth.refl.put
          refine qq b L2 u _ (fun x o hx => ?_) st.nb (st5.fr.free nL2) ⟨st5.A.ok, dx, d', [], upd_same, hd6.keep st5.A.ok (fun kvs z => by rw [upd_ne (ne_of z hb6 (by intro z; cases z))]; exact z) (kpb_tups ko nt), by rw [upd_ne (ne_of hL2 hb6 (by intro z; cases z))]; exact hL2, .nil⟩ p2.nm all
          rw [upd_ne (fun e => by rw [e, st.nb] at hx; cases hx)]
          exact s6 _ _ (st5.fr _ _ hx)
theorem ok_Board___eq__ (T : Tx K mg) : OkM P w K mg base 1 "Board" "__eq__" ["self", "other"] (spBrdEq K) := by
  refine OkM.mk' T.M_Board___eq__ T.F_Board___eq__ (fun _ _ _ _ _ _ us hl => match us, hl with | [_, _], _ => rfl) sc_Board___eq__ (fun vs H Q E h => ?_) (fun cdv A outer s H vs Q E hr h => ?_)
  · obtain ⟨a, b, rfl, h⟩ := h
    rfl
  · obtain ⟨a, b, rfl, h⟩ := h
    refine ⟨(tRet (tAndV (tCB (rIsi K) (tCons (tVar 1) (tCons (tC (.ref (He.ga K "Board"))) tNil))) (tOp (rEqDc K) (tFld K (tVar 0) "table") (tFld K (tVar 1) "table")))), (pss_one (ps_ret (pe_and (pe_callB call_isi (by rfl) T.Z_isinstance (by decide +kernel) (pa_cons (pv 1) (pa_cons (pe_glob (by rfl) T.G_Board rfl) pa_nil))) (pe_one (pe_cmpR (op_eqDc (hu65 hr)) (pe_fld (pv 0) rfl) (pe_fld (pv 1) rfl) (nomark _)))))), ?_⟩
    walk_at "0"
    walk_at "g"
    rcases h with ⟨L, L', N, N', t, t', past, past', hA, hB, sh, sh', q⟩ | ⟨L, N, t, past, kvs, hA, hb, q⟩
    · obtain ⟨dx, d, ds, hb, hd, hL, hp⟩ := hA.ex
      obtain ⟨kvs, hk, hr2⟩ := hd.ex
      obtain ⟨dx', d', ds', hb', hd', hL', hp'⟩ := hB.ex
      obtain ⟨kvs', hk', hr2'⟩ := hd'.ex
      refine ⟨.ref b, _, _, _, true, rfl, .own _, .base (.ins hb' T.C_Board T.NQ.c1 T.NQ.c2 T.NQ.c3 T.NQ.ob), T.NQ.is, ?_⟩
      walk_at "g"
      refine w_tfld (w_var rfl ⟨a, _, dx, _, .ref d, rfl, hb, T.C_Board, T.N_Board_table, rfl, ?_⟩)
      refine w_tfld (w_var rfl ⟨b, _, dx', _, .ref d', rfl, hb', T.C_Board, T.N_Board_table, rfl, ?_⟩)
      exact ⟨d, d', kvs, kvs', tabP t, tabP t', rfl, rfl, hk, hk', hr2.dc, hr2'.dc, sh, sh', q⟩
    · refine ⟨.ref b, _, _, _, false, rfl, .own _, .base (.dK hb), T.NQ.no, ?_⟩
      walk_at "g"
      exact q
theorem ok__law_user (T : Tx K mg) : Ok P w K mg base 3 "_law_user" ["dice"] (spUser K) := by
  refine Ok.mk' T.G__law_user T.F__law_user (fun _ _ _ _ _ _ us hl => match us, hl with | [_], _ => rfl) sc__law_user (fun vs H Q E h => ?_) (fun cdv A outer s H vs Q E hr h => ?_)
  · obtain ⟨a, rfl, hd, q⟩ := h
    rfl
  · obtain ⟨a, rfl, hd, q⟩ := h
    refine ⟨(tSeq (tAsg (tCall (spRoll) [] E (tCons (tVar 0) (tCons (tOp (rIxL K) (tLst (tCons (tC (.int 130)) (tCons (tOp oPow (tC (.int 10)) (tC (.int 6))) (tCons (tOp oAdd (tOp oPow (tC (.int 10)) (tC (.int 12))) (tC (.int 1))) (tCons (tC (.int 130)) tNil))))) (tCall (spRoll) [] E (tCons (tVar 0) (tCons (tC (.int 4)) tNil)))) tNil))) (gName 1))
      (tRet (tTup (tCons (tVar 1) (tCons (tCall (spRoll) [] E (tCons (tVar 0) (tCons (tC (.int 6)) tNil))) (tCons (tCall (spRoll) [] E (tCons (tVar 0) (tCons (tC (.int 4)) tNil))) tNil)))))), (pss_cons (ps_set (i := 1) sc__law_user.nd rfl (by first | exact Or.inl rfl | exact Or.inr rfl) (pe_f (ok__law_roll T) hr (pnx (L2N.takes_of rfl rfl rfl rfl)) (pa_cons (pv 0) (pa_cons (pe_ix ix_list (pe_lst (pa_cons pe_int (pa_cons (pe_op op_pow pe_int pe_int) (pa_cons (pe_op op_add (pe_op op_pow pe_int pe_int) pe_int) (pa_cons pe_int pa_nil))))) (pe_f (ok__law_roll T) hr (pnx (L2N.takes_of rfl rfl rfl rfl)) (pa_cons (pv 0) (pa_cons pe_int pa_nil))) (fun _ _ => rfl)) pa_nil))))
      (pss_one (ps_ret (pe_tup (pa_cons (pv 1) (pa_cons (pe_f (ok__law_roll T) hr (pnx (L2N.takes_of rfl rfl rfl rfl)) (pa_cons (pv 0) (pa_cons pe_int pa_nil))) (pa_cons (pe_f (ok__law_roll T) hr (pnx (L2N.takes_of rfl rfl rfl rfl)) (pa_cons (pv 0) (pa_cons pe_int pa_nil))) pa_nil))))))), ?_⟩
    walk_at "0"
    walk_at "g"
    refine w_I ⟨by decide, by decide, by decide⟩ ?_
    walk_at "g"
    refine w_I ⟨by decide, by decide, by decide⟩ ?_
    walk_at "g"
    refine ⟨sz (by simp), fun p np => ?_⟩
    have b1 := (But.refl hd).new (o := .lst [.int 130, .int (10 ^ 6), .int (10 ^ 12 + 1), .int 130]) np
    walk_at "g"
    refine ⟨a, 4, rfl, b1.d1, by decide, by decide, fun r H1 r0 r1 b2 => ?_⟩
    have hp := b2.kp p _ upd_same (hd.ne np)
    obtain ⟨z, hz, hz2⟩ := atI_four (a := 130) (b := 10 ^ 6) (c := 10 ^ 12 + 1) (d := 130) r0 r1
    refine w_ixL (lstOf hp) hz ?_
    walk_at "g"
    refine ⟨a, z, rfl, b2.d1, by omega, by omega, fun n H2 n0 n1 b3 => ?_⟩
    walk_at "g"
    refine ⟨a, 6, rfl, b3.d1, by decide, by decide, fun l H3 l0 l1 b4 => ?_⟩
    walk_at "g"
    refine ⟨a, 4, rfl, b4.d1, by decide, by decide, fun m H4 m0 m1 b5 => ?_⟩
    walk_at "g"
    refine ⟨sz (by simp), fun t nt => ?_⟩
    have b6 := ((b1.trans b2).trans b3).trans (b4.trans b5)
    exact q t _ _ _ _ (b6.new nt) (b6.free nt) upd_same n0 (by omega) l0 (by omega) m0 (by omega)
theorem ok_Board___len__ (T : Tx K mg) : OkM P w K mg base 1 "Board" "__len__" ["self"] (spBrdLen K) := by
  refine OkM.mk' T.M_Board___len__ T.F_Board___len__ (fun _ _ _ _ _ _ us hl => match us, hl with | [_], _ => rfl) sc_Board___len__ (fun vs H Q E h => ?_) (fun cdv A outer s H vs Q E hr h => ?_)
  · obtain ⟨b, L, N, t, past, rfl, hA, q⟩ := h
    rfl
  · obtain ⟨b, L, N, t, past, rfl, hA, q⟩ := h
    refine ⟨(tRet (tCB rLenD (tCons (tFld K (tVar 0) "table") tNil))), (pss_one (ps_ret (pe_callB call_lenD (by rfl) T.Z_len (by decide +kernel) (pa_cons (pe_fld (pv 0) rfl) pa_nil)))), ?_⟩
    walk_at "0"
    obtain ⟨dx, d, ds, hb, hd, hL, hp⟩ := hA.ex
    obtain ⟨kvs, hk, hr2⟩ := hd.ex
    walk_at "g"
    refine w_tfld (w_var rfl ⟨b, _, dx, _, .ref d, rfl, hb, T.C_Board, T.N_Board_table, rfl, ?_⟩)
    refine w_lenK hk ?_
    rw [hr2.len]
    exact q
theorem ok_Board___str__ (T : Tx K mg) : OkM P w K mg base 1 "Board" "__str__" ["self"] (spBrdStr K) := by
  refine OkM.mk' T.M_Board___str__ T.F_Board___str__ (fun _ _ _ _ _ _ us hl => match us, hl with | [_], _ => rfl) sc_Board___str__ (fun vs H Q E h => ?_) (fun cdv A outer s H vs Q E hr h => ?_)
  · obtain ⟨b, L, N, t, past, rfl, hA, q⟩ := h
    rfl
  · obtain ⟨b, L, N, t, past, rfl, hA, q⟩ := h
    refine ⟨(tRet (tM1 (rJoin K) (tC (.str ",")) (tCB rSortDS (tCons (tFld K (tVar 0) "table") tNil)))), (pss_one (ps_ret (pe_join pe_str (pe_callB (call_sortedD rfl) (by rfl) T.Z_sorted (by decide +kernel) (pa_cons (pe_fld (pv 0) rfl) pa_nil))))), ?_⟩
    walk_at "0"
    obtain ⟨dx, d, ds, hb, hd, hL, hp⟩ := hA.ex
    obtain ⟨kvs, hk, hr2⟩ := hd.ex
    walk_at "p"
    refine w_m1 (w_c ⟨⟨_, rfl⟩, ?_⟩)
    walk_at "g"
    refine w_tfld (w_var rfl ⟨b, _, dx, _, .ref d, rfl, hb, T.C_Board, T.N_Board_table, rfl, ?_⟩)
    walk_at "g"
    refine w_sortT (.inl hk) hr2 hA.ok.len fun ys p H2 y s2 np hp2 => ?_
    exact w_joinT hA.ok y hp2 (q ys H2 y s2)
theorem ok_need_user (T : Tx K mg) : Ok P w K mg base 2 "need_user" ["thing"] (spNeedUser K) := by
  refine Ok.mk' T.G_need_user T.F_need_user (fun _ _ _ _ _ _ us hl => match us, hl with | [_], _ => rfl) sc_need_user (fun vs H Q E h => ?_) (fun cdv A outer s H vs Q E hr h => ?_)
  · obtain ⟨v, d, rfl, hd, q1, q2⟩ := h
    rfl
  · obtain ⟨v, d, rfl, hd, q1, q2⟩ := h
    refine ⟨(tSeq (tIfS (tOr (tNot (tB (tCB (rIsi K) (tCons (tVar 0) (tCons (tC (.ty "tuple")) tNil))))) (tOr (tTest (tOp rNe (tCB (cLen K) (tCons (tVar 0) tNil)) (tC (.int 3)))) (tNot (tB (tCall (spIsNum K) [] E (tCons (tOp (rIxT K) (tVar 0) (tC (.int 0))) (tCons (tC (.int 0)) (tCons (tC (.int 1000000000000)) tNil)))))))) (tRz K E "BadUser") tNext)
      (tIfS (tOr (tNot (tB (tCall (spIsNum K) [] E (tCons (tOp (rIxT K) (tVar 0) (tC (.int 1))) (tCons (tC (.int 0)) (tCons (tOp oSub (tC (.int 6)) (tC (.int 1))) tNil)))))) (tNot (tB (tCall (spIsNum K) [] E (tCons (tOp (rIxT K) (tVar 0) (tC (.int 2))) (tCons (tC (.int 0)) (tCons (tOp oSub (tC (.int 4)) (tC (.int 1))) tNil))))))) (tRz K E "BadUser") tNext)), (pss_cons (ps_if (PW.pt (pw_or (pt_not (pt_val (pe_callB call_isi (by rfl) T.Z_isinstance (by decide +kernel) (pa_cons (pv 0) (pa_cons (pe_bltn (v := .ty "tuple") (by rfl) T.Z_tuple (by decide +kernel) rfl) pa_nil))))) (pw_or (pt_cmpR op_ne (pe_callB call_len (by rfl) T.Z_len (by decide +kernel) (pa_cons (pv 0) pa_nil)) pe_int (nomark _)) (pw_or1 (pt_not (pt_val (pe_f (ok_is_number T) hr (pnx (L2N.takes_of rfl rfl rfl rfl)) (pa_cons (pe_ix ix_tup (pv 0) pe_int (fun _ _ => rfl)) (pa_cons pe_int (pa_cons (pe_gi T.I_GREATEST) pa_nil)))))))))) (pss_one (ps_rz T.X_BadUser (L2N.takes_of rfl rfl rfl rfl))) pss_nil)
      (pss_one (ps_if (PW.pt (pw_or (pt_not (pt_val (pe_f (ok_is_number T) hr (pnx (L2N.takes_of rfl rfl rfl rfl)) (pa_cons (pe_ix ix_tup (pv 0) pe_int (fun _ _ => rfl)) (pa_cons pe_int (pa_cons (pe_op op_sub (pe_gi T.I_LANDS) pe_int) pa_nil)))))) (pw_or1 (pt_not (pt_val (pe_f (ok_is_number T) hr (pnx (L2N.takes_of rfl rfl rfl rfl)) (pa_cons (pe_ix ix_tup (pv 0) pe_int (fun _ _ => rfl)) (pa_cons pe_int (pa_cons (pe_op op_sub (pe_gi T.I_PLANS) pe_int) pa_nil))))))))) (pss_one (ps_rz T.X_BadUser (L2N.takes_of rfl rfl rfl rfl))) pss_nil))), ?_⟩
    walk_at "0"
    walk_at "g"
    refine isi_tuple hd ?_
    walk_at "g"
    by_cases ht : isTupD d = true
    · obtain ⟨ds, rfl⟩ : ∃ ds, d = .tuple ds := by
        cases d <;> first | exact ⟨_, rfl⟩ | cases ht
      refine if_f rfl ?_
      walk_at "g"
      refine w_lenD hd ?_
      walk_at "g"
      refine if_b (fun h => ?_) (fun h => ?_)
      · refine if_t rfl ?_
        walk_at "g"
        refine q2 (isUser_len fun z => ?_)
        rw [z] at h
        simp at h
      · have hl : ds.length = 3 := by
          simp at h
          omega
        match ds, hl with
        | [a, b, c], _ =>
        walk_at "g"
        refine w_ixD0 hd fun u0 h0 => ?_
        walk_at "g"
        refine ⟨_, _, _, _, rfl, h0, ?_⟩
        walk_at "g"
        cases e0 : isNum a 0 1000000000000
        · walk_at "g"
          refine q2 ?_
          simp only [isUser, e0, Bool.false_and]
        · walk_at "g"
          refine w_ixD1 hd fun u1 h1 => ?_
          walk_at "g"
          refine ⟨_, _, _, _, rfl, h1, ?_⟩
          walk_at "g"
          cases e1 : isNum b 0 (6 - 1)
          · walk_at "g"
            refine q2 ?_
            have e1 : isNum b 0 5 = false := e1
            simp only [isUser, e0, e1, Bool.false_and, Bool.and_false]
          · have e1 : isNum b 0 5 = true := e1
            walk_at "g"
            refine w_ixD2 hd fun u2 h2 => ?_
            walk_at "g"
            refine ⟨_, _, _, _, rfl, h2, ?_⟩
            walk_at "g"
            cases e2 : isNum c 0 (4 - 1)
            · walk_at "g"
              refine q2 ?_
              have e2 : isNum c 0 3 = false := e2
              simp only [isUser, e0, e1, e2, Bool.and_false]
            · walk_at "g"
              refine q1 ?_
              have e2 : isNum c 0 3 = true := e2
              simp only [isUser, e0, e1, e2, Bool.and_true]
    · have ht : isTupD d = false := by simpa using ht
      rw [ht]
      walk_at "g"
      refine q2 ?_
      cases d <;> first | rfl | cases ht
theorem ok_place_of (T : Tx K mg) : Ok P w K mg base 2 "place_of" ["number", "deal"] (spPlaceOf K) := by
  refine Ok.mk' T.G_place_of T.F_place_of (fun _ _ _ _ _ _ us hl => match us, hl with | [_, _], _ => rfl) sc_place_of (fun vs H Q E h => ?_) (fun cdv A outer s H vs Q E hr h => ?_)
  · obtain ⟨n, v, s, t, rfl, hd, h1, h2, q⟩ := h
    rfl
  · obtain ⟨n, v, s, t, rfl, hd, h1, h2, q⟩ := h
    refine ⟨(tRet (tCall (spRest) [] E (tCons (tOp oAdd (tOp oMul (tVar 0) (tOp (rIxT K) (tVar 1) (tC (.int 0)))) (tOp (rIxT K) (tVar 1) (tC (.int 1)))) (tCons (tC (.int 100)) tNil)))), (pss_one (ps_ret (pe_f (ok_rest T) hr (pnx (L2N.takes_of rfl rfl rfl rfl)) (pa_cons (pe_op op_add (pe_op op_mul (pv 0) (pe_ix ix_tup (pv 1) pe_int (fun _ _ => rfl))) (pe_ix ix_tup (pv 1) pe_int (fun _ _ => rfl))) (pa_cons (pe_gi T.I_PLACES) pa_nil))))), ?_⟩
    walk_at "0"
    walk_at "g"
    refine w_ixD0 hd fun u0 h0 => ?_
    cases dp_int h0
    refine w_I (.inr ⟨by omega, by omega⟩) ?_
    walk_at "g"
    refine w_ixD1 hd fun u1 h1 => ?_
    cases dp_int h1
    walk_at "g"
    exact ⟨_, _, rfl, by decide, by decide, q⟩
theorem okr_fits (T : Tx K mg) : ∀ n : Nat, Ok P w K mg base (1 + n) "fits" ["condition", "land", "plan"] (spFitsR K n) := by
  intro n
  induction n with
  | zero =>
    refine (Ok.bot T.G_fits T.F_fits (fun _ _ _ _ _ _ us hl => match us, hl with | [_, _, _], _ => rfl)).imp (fun vs H Q E h => ?_)
    obtain ⟨v, d, l, p, k, rfl, hk, hd, sh, hp, q⟩ := h
    omega
  | succ n ih =>
  refine Ok.mk' (k := 1 + n) T.G_fits T.F_fits (fun _ _ _ _ _ _ us hl => match us, hl with | [_, _, _], _ => rfl) sc_fits (fun vs H Q E h => ?_) (fun cdv A outer s H vs Q E hr h => ?_)
  · obtain ⟨v, d, l, p, k, rfl, hk, hd, sh, hp, q⟩ := h
    rfl
  · obtain ⟨v, d, l, p, k, rfl, hk, hd, sh, hp, q⟩ := h
    refine ⟨(tSeq (tIfS (tTest (tOp rEq (tOp (rIxT K) (tVar 0) (tC (.int 0))) (tC (.str "land")))) (tRet (tOp (rIn K false) (tVar 1) (tOp (rIxT K) (tVar 0) (tC (.int 1))))) tNext)
      (tSeq (tIfS (tTest (tOp rEq (tOp (rIxT K) (tVar 0) (tC (.int 0))) (tC (.str "plan")))) (tRet (tOp (rIn K false) (tVar 2) (tOp (rIxT K) (tVar 0) (tC (.int 1))))) tNext)
      (tSeq (tAsg (tLc (iTup K (tSl (rSlA K) (tVar 0) (tPart (tC (.int 1))) tNoPart)) (gName 3) tYes (tCall (spFitsR K n) [] E0 (tCons (tVar 3) (tCons (tVar 1) (tCons (tVar 2) tNil)))) [3]) (gName 4))
      (tSeq (tIfS (tTest (tOp rEq (tOp (rIxT K) (tVar 0) (tC (.int 0))) (tC (.str "not")))) (tRet (tNotV (tOp (rIxL K) (tVar 4) (tC (.int 0))))) tNext)
      (tRet (tIf (tTest (tOp rEq (tOp (rIxT K) (tVar 0) (tC (.int 0))) (tC (.str "and")))) (tCB (rAll K) (tCons (tVar 4) tNil)) (tCB (rAny K) (tCons (tVar 4) tNil)))))))), (pss_cons (ps_if (pt_cmpR op_eq (pe_ix ix_tup (pv 0) pe_int (fun _ _ => rfl)) pe_str (nomark _)) (pss_one (ps_ret (pe_cmpR op_in_seq (pv 1) (pe_ix ix_tup (pv 0) pe_int (fun _ _ => rfl)) (by rfl)))) pss_nil)
      (pss_cons (ps_if (pt_cmpR op_eq (pe_ix ix_tup (pv 0) pe_int (fun _ _ => rfl)) pe_str (nomark _)) (pss_one (ps_ret (pe_cmpR op_in_seq (pv 2) (pe_ix ix_tup (pv 0) pe_int (fun _ _ => rfl)) (by rfl)))) pss_nil)
      (pss_cons (ps_setLc (i := 4) (own := [("part", 3)]) rfl sc_fits.nd rfl rfl (sw_true rfl rfl rfl (by decide +kernel)) (pi_tup (pe_slice sl_tupA (pv 0) (po_some pe_int) po_none)) (blkOk_by (own := [("part", 3)]) (N := ["condition", "land", "plan", "part", "rows"]) (sc := defScope s_fits) (by decide +kernel)) (fun _ _ _ _ _ => (pg_name (i := 3) sc_fits.nd rfl (by first | exact Or.inl rfl | exact Or.inr rfl))) (fun _ _ _ _ _ => pts_nil) (fun _ _ _ _ _ => (pe_f ih hr pn0 (pa_cons (pv 3) (pa_cons (pv 1) (pa_cons (pv 2) pa_nil))))))
      (pss_cons (ps_if (pt_cmpR op_eq (pe_ix ix_tup (pv 0) pe_int (fun _ _ => rfl)) pe_str (nomark _)) (pss_one (ps_ret (pe_not (pe_ix ix_list (pv 4) pe_int (fun _ _ => rfl))))) pss_nil)
      (pss_one (ps_ret (pe_ifExp (pt_cmpR op_eq (pe_ix ix_tup (pv 0) pe_int (fun _ _ => rfl)) pe_str (nomark _)) (pe_callB (cr_all rfl) (by rfl) T.Z_all (by decide +kernel) (pa_cons (pv 4) pa_nil)) (pe_callB (cr_any rfl) (by rfl) T.Z_any (by decide +kernel) (pa_cons (pv 4) pa_nil))))))))), ?_⟩
    walk_at "0"
    obtain ⟨j, rfl⟩ : ∃ j, k = j + 1 := by
      cases k with
      | zero => exact absurd rfl hp
      | succ j => exact ⟨j, rfl⟩
    obtain ⟨z, a, r, rfl, hz⟩ := parts_inv hp
    walk_at "g"
    refine w_ixD0 hd fun u0 h0 => ?_
    cases dp_str h0
    walk_at "g"
    by_cases hl : z = "land"
    · subst hl
      refine if_t (decide_eq_true rfl) ?_
      rcases hz with ⟨_, rfl, hr0⟩ | ⟨e, _⟩ | ⟨e, _⟩
      · obtain ⟨n0, ns, rfl, _⟩ := isRow_inv hr0
        walk_at "g"
        refine w_ixD1 hd fun u1 h1 => ?_
        obtain ⟨ad, xs, rfl, hx, hxs⟩ := dp_tuple h1
        cases dpAll_intsV hxs
        refine w_inT hx rfl (flat_ints _) ?_
        rw [inV_ints, ← inRowD_ints]
        exact q _ (Same.refl _)
      · exact absurd e (by decide +kernel)
      · exact absurd rfl e
    · refine if_f (decide_eq_false hl) ?_
      walk_at "g"
      refine w_ixD0 hd fun u1 h1 => ?_
      cases dp_str h1
      walk_at "g"
      by_cases hpl : z = "plan"
      · subst hpl
        refine if_t (decide_eq_true rfl) ?_
        rcases hz with ⟨e, _⟩ | ⟨_, rfl, hr0⟩ | ⟨_, e, _⟩
        · exact absurd e (by decide +kernel)
        · obtain ⟨n0, ns, rfl, _⟩ := isRow_inv hr0
          walk_at "g"
          refine w_ixD1 hd fun u2 h2 => ?_
          obtain ⟨ad, xs, rfl, hx, hxs⟩ := dp_tuple h2
          cases dpAll_intsV hxs
          refine w_inT hx rfl (flat_ints _) ?_
          rw [inV_ints, ← inRowD_ints]
          have e : fitsD (j + 1) (.tuple [.str "plan", .tuple ((n0 :: ns).map PyData.int)]) l p = inRowD p (.tuple ((n0 :: ns).map PyData.int)) := by
            simp only [fitsD, show ¬ ("plan" : Str) = "land" by decide +kernel, if_false, if_true]
          rw [← e]
          exact q _ (Same.refl _)
        · exact absurd rfl e
      · refine if_f (decide_eq_false hpl) ?_
        rcases hz with ⟨e, _⟩ | ⟨e, _⟩ | ⟨_, _, hw, hys⟩
        · exact absurd e hl
        · exact absurd e hpl
        walk_at "g"
        obtain ⟨ad, xs, rfl, hx, hxs⟩ := dp_tuple hd
        cases hxs with
        | cons hx0 hxs =>
        refine w_sl1 hx fun p3 np3 => ?_
        rename_i v0 xs
        have s3 : Same H (upd H p3 (.tup xs)) := Same.new np3
        have hp3 : (upd H p3 (.tup xs)) p3 = some (.tup xs) := upd_same
        generalize upd H p3 (.tup xs) = H3 at *
        walk_at "g"
        refine ⟨⟨xs, tupOf hp3⟩, ?_⟩
        have hxs3 := dps_s s3 hxs
        have hln : xs.length = (a :: r).length := dpAll_len hxs3
        have hsm := okD_len sh
        simp only [List.length_cons] at hsm hln
        refine lc_pure walk_tup (by omega) ((a :: r).map fun y => [V.bl (fitsD j y l p)]) (by simp [hln]) (fun H' s => tupOf (s _ _ hp3)) ?_ ?_
        · rintro D i acc x H' H'' hD hi hacc hH' iv ⟨rfl, hxi⟩
          walk_at "g"
          refine ⟨rfl, ?_⟩
          walk_at "g"
          obtain ⟨e, he, hde⟩ := dpAll_getV hxs3 hxi
          have em : e ∈ a :: r := List.mem_of_getElem? he
          refine ⟨_, e, l, p, j, rfl, by omega, dp_s iv.1 hde, okD_mem sh (List.mem_cons_of_mem _ em), hys e em, fun H4 s4 => ?_⟩
          refine lcp_nx hD (by omega) hacc hH' iv s4 ?_
          rw [List.getElem?_map, he]
          rfl
        · intro D H4 hD s4 hH4
          rw [flat_one (fun y => V.bl (fitsD j y l p))] at hH4
          have sT := s3.trans s4
          have hd4 := dp_s sT hd
          walk_at "g"
          refine w_ixD0 hd4 fun u2 h2 => ?_
          cases dp_str h2
          walk_at "g"
          by_cases hn : z = "not"
          · subst hn
            refine if_t (decide_eq_true rfl) ?_
            walk_at "g"
            refine w_ixL (lstOf hH4) (v := .bl (fitsD j a l p)) (at_of (j := 0) rfl rfl) ?_
            walk_at "g"
            have e : fitsD (j + 1) (.tuple (.str "not" :: a :: r)) l p = !fitsD j a l p := by
              simp only [fitsD, hl, hpl, if_false, if_true]
            rw [← e]
            exact q _ sT
          · refine if_f (decide_eq_false hn) ?_
            walk_at "g"
            refine w_ixD0 hd4 fun u3 h3 => ?_
            cases dp_str h3
            walk_at "g"
            have hH5 : H4 D = some (.lst (((a :: r).map fun y => fitsD j y l p).map V.bl)) := by
              rw [hH4, List.map_map]
              rfl
            by_cases ha : z = "and"
            · subst ha
              refine if_t (decide_eq_true rfl) ?_
              walk_at "g"
              refine w_all (lstOf hH5) ?_
              have e : fitsD (j + 1) (.tuple (.str "and" :: a :: r)) l p = ((a :: r).map fun y => fitsD j y l p).all id := by
                rw [List.all_map]
                simp only [fitsD, hl, hpl, hn, if_false, if_true]
                rfl
              rw [← e]
              exact q _ sT
            · refine if_f (decide_eq_false ha) ?_
              walk_at "g"
              refine w_any (lstOf hH5) ?_
              have e : fitsD (j + 1) (.tuple (.str z :: a :: r)) l p = ((a :: r).map fun y => fitsD j y l p).any id := by
                rw [List.any_map]
                simp only [fitsD, hl, hpl, hn, ha, if_false]
                rfl
              rw [← e]
              exact q _ sT
theorem ok_fits (T : Tx K mg) : Ok P w K mg base 7 "fits" ["condition", "land", "plan"] (spFitsR K 6) := okr_fits T 6
theorem ok_share_of (T : Tx K mg) : Ok P w K mg base 8 "share_of" ["rules", "land", "plan"] (spShareOf K) := by
  refine Ok.mk' T.G_share_of T.F_share_of (fun _ _ _ _ _ _ us hl => match us, hl with | [_, _, _], _ => rfl) sc_share_of (fun vs H Q E h => ?_) (fun cdv A outer s H vs Q E hr h => ?_)
  · obtain ⟨v, ds, l, p, rfl, hd, sh, hR, q⟩ := h
    rfl
  · obtain ⟨v, ds, l, p, rfl, hd, sh, hR, q⟩ := h
    refine ⟨(tSeq (tFor (iTup K (tVar 0)) (gTup K 2 (gCons (gName 3) (gCons (gName 4) gNil))) (tIfS (tB (tCall (spFitsR K 6) [] E (tCons (tVar 3) (tCons (tVar 1) (tCons (tVar 2) tNil))))) (tRet (tVar 4)) tNext))
      (tRet (tC (.int 0)))), (pss_cons (ps_for (passes_of rfl) rfl (pi_tup (pv 0)) (pg_tup (by rfl) (pgs_cons (pg_name (i := 3) sc_share_of.nd rfl (by first | exact Or.inl rfl | exact Or.inr rfl)) (pgs_cons (pg_name (i := 4) sc_share_of.nd rfl (by first | exact Or.inl rfl | exact Or.inr rfl)) pgs_nil))) (pss_one (ps_if (pt_val (pe_f (ok_fits T) hr (pnx (L2N.takes_of rfl rfl rfl rfl)) (pa_cons (pv 3) (pa_cons (pv 1) (pa_cons (pv 2) pa_nil))))) (pss_one (ps_ret (pv 4))) pss_nil)))
      (pss_one (ps_ret pe_int))), ?_⟩
    walk_at "0"
    walk_at "g"
    obtain ⟨a, xs, rfl, hx, hxs⟩ := dp_tuple hd
    walk_at "g"
    refine ⟨⟨xs, hx⟩, ?_⟩
    have hxl := dpAll_len hxs
    refine for_go walk_tup (fun i σ H' => (∃ x3 x4, σ = [some (.ref a), some (.int l), some (.int p), x3, x4]) ∧ Same H H' ∧ shareL ds l p = shareL (ds.drop i) l p) ⟨⟨_, _, rfl⟩, Same.refl _, rfl⟩ (fun i σ H' _ h => tup_s h.2.1 hx) ?_ ?_
    · rintro i x σ H' H'' hi ⟨⟨x3, x4, rfl⟩, s1, he⟩ ⟨rfl, hxi⟩
      obtain ⟨e, he2, hde⟩ := dpAll_getV hxs hxi
      have hm := List.mem_of_getElem? he2
      obtain ⟨c, m, rfl, hc, m0, m1⟩ := isRule_inv (areRules_mem hR hm)
      obtain ⟨a2, u, rfl, hs2, hu⟩ := dp_pair (dp_s s1 hde)
      refine w_gtup hs2 rfl ?_
      walk_at "g"
      refine ⟨u, c, l, p, 5, rfl, by decide, hu, okD_mem (okD_mem sh hm) (by simp), isCond_parts hc, fun H3 s3 => ?_⟩
      walk_at "g"
      rw [shareL_drop he2] at he
      cases hf : fitsD 5 c l p with
      | true =>
        walk_at "g"
        rw [hf] at he
        have he : shareL ds l p = m := he
        rw [← he]
        exact q _ (s1.trans s3)
      | false =>
        walk_at "g"
        rw [hf] at he
        exact ⟨⟨_, _, rfl⟩, s1.trans s3, he⟩
    · rintro σ H' ⟨⟨x3, x4, rfl⟩, s1, he⟩
      walk_at "g"
      rw [List.drop_of_length_le (by omega)] at he
      have he : shareL ds l p = 0 := he
      rw [← he]
      exact q _ s1
theorem ok_lets (T : Tx K mg) : Ok P w K mg base 9 "lets" ["rules", "deal", "user"] (spLets K) := by
  refine Ok.mk' T.G_lets T.F_lets (fun _ _ _ _ _ _ us hl => match us, hl with | [_, _, _], _ => rfl) sc_lets (fun vs H Q E h => ?_) (fun cdv A outer s H vs Q E hr h => ?_)
  · obtain ⟨v, w', u, ds, s', t', n, l, p, rfl, hd, sh, hR, hw, s0, s1, hu, q⟩ := h
    rfl
  · obtain ⟨v, w', u, ds, s', t', n, l, p, rfl, hd, sh, hR, hw, s0, s1, hu, q⟩ := h
    refine ⟨(tRet (tOp oLt (tCall (spPlaceOf K) [] E (tCons (tOp (rIxT K) (tVar 2) (tC (.int 0))) (tCons (tVar 1) tNil))) (tCall (spShareOf K) [] E (tCons (tVar 0) (tCons (tOp (rIxT K) (tVar 2) (tC (.int 1))) (tCons (tOp (rIxT K) (tVar 2) (tC (.int 2))) tNil)))))), (pss_one (ps_ret (pe_cmpR op_lt (pe_f (ok_place_of T) hr (pnx (L2N.takes_of rfl rfl rfl rfl)) (pa_cons (pe_ix ix_tup (pv 2) pe_int (fun _ _ => rfl)) (pa_cons (pv 1) pa_nil))) (pe_f (ok_share_of T) hr (pnx (L2N.takes_of rfl rfl rfl rfl)) (pa_cons (pv 0) (pa_cons (pe_ix ix_tup (pv 2) pe_int (fun _ _ => rfl)) (pa_cons (pe_ix ix_tup (pv 2) pe_int (fun _ _ => rfl)) pa_nil)))) (nomark _)))), ?_⟩
    walk_at "0"
    walk_at "g"
    refine w_ixD0 hu fun u0 h0 => ?_
    cases dp_int h0
    walk_at "g"
    refine ⟨n, w', s', t', rfl, hw, s0, s1, ?_⟩
    walk_at "g"
    refine w_ixD1 hu fun u1 h1 => ?_
    cases dp_int h1
    walk_at "g"
    refine w_ixD2 hu fun u2 h2 => ?_
    cases dp_int h2
    walk_at "g"
    refine ⟨v, ds, l, p, rfl, hd, sh, hR, fun H2 s2 => ?_⟩
    walk_at "g"
    exact q _ s2
theorem okr_Board_is_open (T : Tx K mg) : ∀ n : Nat, OkM P w K mg base (10 + n) "Board" "is_open" ["self", "name", "user"] (spBrdOpenR K n) := by
  intro n
  induction n with
  | zero =>
    refine (OkM.bot T.M_Board_is_open T.F_Board_is_open (fun _ _ _ _ _ _ us hl => match us, hl with | [_, _, _], _ => rfl)).imp (fun vs H Q E h => ?_)
    obtain ⟨b, L, N, t, past, z, u, d, rfl, hA, hz, hu, hus, hn, q⟩ := h
    omega
  | succ n ih =>
  refine OkM.mk' (k := 10 + n) T.M_Board_is_open T.F_Board_is_open (fun _ _ _ _ _ _ us hl => match us, hl with | [_, _, _], _ => rfl) sc_Board_is_open (fun vs H Q E h => ?_) (fun cdv A outer s H vs Q E hr h => ?_)
  · obtain ⟨b, L, N, t, past, z, u, d, rfl, hA, hz, hu, hus, hn, q⟩ := h
    rfl
  · obtain ⟨b, L, N, t, past, z, u, d, rfl, hA, hz, hu, hus, hn, q⟩ := h
    refine ⟨(tSeq (tAsg (tDGet (tFld K (tVar 0) "table") (tVar 1)) (gTup K 4 (gCons (gName 3) (gCons (gName 4) (gCons (gName 5) (gCons (gName 6) gNil))))))
      (tSeq (tIfS (tOr (tB (tVar 6)) (tNot (tB (tCall (spLets K) [] E (tCons (tVar 4) (tCons (tVar 3) (tCons (tVar 2) tNil))))))) (tRet (tC (.bl false))) tNext)
      (tRet (tCB (rAll K) (tCons (tLc (iTup K (tVar 5)) (gName 7) tYes (tMeth (He.ga K "Board") "is_open" (spBrdOpenR K n) [] E0 (tVar 0) (tCons (tVar 7) (tCons (tVar 2) tNil))) [7]) tNil))))), (pss_cons (ps_asg (pe_dget (hu1 hr) (pe_fld (pv 0) rfl) (pv 1) (fun _ _ => rfl)) (pg_tup (by rfl) (pgs_cons (pg_name (i := 3) sc_Board_is_open.nd rfl (by first | exact Or.inl rfl | exact Or.inr rfl)) (pgs_cons (pg_name (i := 4) sc_Board_is_open.nd rfl (by first | exact Or.inl rfl | exact Or.inr rfl)) (pgs_cons (pg_name (i := 5) sc_Board_is_open.nd rfl (by first | exact Or.inl rfl | exact Or.inr rfl)) (pgs_cons (pg_name (i := 6) sc_Board_is_open.nd rfl (by first | exact Or.inl rfl | exact Or.inr rfl)) pgs_nil))))))
      (pss_cons (ps_if (PW.pt (pw_or (pt_val (pv 6)) (pw_or1 (pt_not (pt_val (pe_f (ok_lets T) hr (pnx (L2N.takes_of rfl rfl rfl rfl)) (pa_cons (pv 4) (pa_cons (pv 3) (pa_cons (pv 2) pa_nil))))))))) (pss_one (ps_ret pe_bl)) pss_nil)
      (pss_one (ps_ret (pe_callB (cr_all rfl) (by rfl) T.Z_all (by decide +kernel) (pa_cons (pe_lc (own := [("other", 7)]) rfl sc_Board_is_open.nd (pi_tup (pv 5)) (blkOk_by (own := [("other", 7)]) (N := ["self", "name", "user", "deal", "rules", "needs", "is_dark", "other"]) (sc := defScope s_Board_is_open) (by decide +kernel)) (fun _ _ _ _ _ => (pg_name (i := 7) sc_Board_is_open.nd rfl (by first | exact Or.inl rfl | exact Or.inr rfl))) (fun _ _ _ _ _ => pts_nil) (fun _ _ _ _ _ => (pe_m ih T.C_Board hr pn0 (pv 0) (pa_cons (pv 7) (pa_cons (pv 2) pa_nil))))) pa_nil)))))), ?_⟩
    walk_at "0"
    obtain ⟨dx, d', ds, hb, hd, hL, hp⟩ := hA.ex
    obtain ⟨kvs, hk, hr2⟩ := hd.ex
    obtain ⟨r, er⟩ := rowOf_some.mpr hz
    obtain ⟨uu, eu, hrow⟩ := hr2.val er
    obtain ⟨p, ud, ur, un, rfl, hpt, h1, h2, h3⟩ := row_at hrow
    have hro := hA.ok.row z r er
    have hle := needs_len hA.ok er
    have eop := openT_row (u := d) hA.ok er
    walk_at "p"
    refine w_dget (w_tfld (w_var rfl ⟨b, _, dx, _, .ref d', rfl, hb, T.C_Board, T.N_Board_table, rfl, w_var rfl ?_⟩))
    refine a_dgetS (.inl hk) eu ?_
    refine w_gtup hpt rfl ?_
    walk_at "g"
    refine if_b (fun hdm => ?_) (fun hdm => ?_)
    · walk_at "g"
      rw [hdm] at eop
      have e : openT t d z = false := eop
      rw [← e]
      exact q _ (Same.refl _)
    · obtain ⟨rs, ers⟩ := areRules_inv hro.rules
      obtain ⟨s', t', eds, s0, s1', _⟩ := isDeal_is hro.deal
      obtain ⟨n', l, p', rfl, _⟩ := isUser_is hus
      walk_at "g"
      refine ⟨ur, ud, u, rs, s', t', n', l, p', rfl, ers ▸ h2, ers ▸ hro.ok, ers ▸ hro.rules, eds ▸ h1, s0, s1', hu, fun H1 s1 => ?_⟩
      have el : decide ((n' * s' + t') % 100 < shareL rs l p') = letsD r.rules r.deal (.tuple [.int n', .int l, .int p']) := by
        rw [ers, eds]
        rfl
      rw [el]
      walk_at "g"
      rw [hdm] at eop
      refine if_b (fun hl => ?_) (fun hl => ?_)
      · have hl : letsD r.rules r.deal (.tuple [.int n', .int l, .int p']) = false := by simpa using hl
        walk_at "g"
        rw [hl] at eop
        have e : openT t (.tuple [.int n', .int l, .int p']) z = false := eop
        rw [← e]
        exact q _ s1
      · have hl : letsD r.rules r.deal (.tuple [.int n', .int l, .int p']) = true := by simpa using hl
        rw [hl, Bool.true_and, Bool.not_false, Bool.true_and] at eop
        cases h3 with
        | @tup pa _ _ hn3 ht =>
        cases strs_dps ht
        walk_at "g"
        refine ⟨⟨_, RG.Same.tup s1 hn3⟩, ?_⟩
        refine lc_pure (walk_tup (K := K) (a := pa) (xs := r.needs.map V.str)) (by rw [List.length_map]; omega) (r.needs.map fun m => [V.bl (openT t (.tuple [.int n', .int l, .int p']) m)]) (by simp) (fun H' s => RG.Same.tup (s1.trans s) hn3) ?_ ?_
        · rintro C j acc y G' G'' hC hj hacc hG' iv ⟨rfl, hy⟩
          rw [List.length_map] at hj
          rw [List.getElem?_map] at hy
          obtain ⟨m, hm, rfl⟩ := Option.map_eq_some_iff.mp hy
          have hmm := List.mem_of_getElem? hm
          have s2 := s1.trans iv.1
          walk_at "g"
          refine ⟨rfl, ?_⟩
          walk_at "g"
          refine w_meth (w_var rfl ⟨b, dx, _, rfl, s2 _ _ hb, rfl, ?_⟩)
          walk_at "g"
          refine ⟨b, L, N, t, past, m, u, _, rfl, hA.s s2, hro.mem m hmm, dp_s s2 hu, hus, ?_, fun H2 s3 => ?_⟩
          · have := rk_lt hA.ok er hmm
            omega
          · refine lcp_nx hC (by omega) hacc hG' iv s3 ?_
            rw [List.getElem?_map, hm]
            rfl
        · intro C H2 nC s2 hC
          rw [flat_one (fun m => V.bl (openT t (.tuple [.int n', .int l, .int p']) m))] at hC
          walk_at "g"
          refine w_all (bs := r.needs.map (openT t (.tuple [.int n', .int l, .int p']))) (lstOf (by rw [hC, List.map_map]; rfl)) ?_
          have e : (r.needs.map (openT t (.tuple [.int n', .int l, .int p']))).all id = openT t (.tuple [.int n', .int l, .int p']) z := by
            rw [eop, List.all_map]
            rfl
          rw [e]
          exact q _ (s1.trans s2)
theorem ok_Board_is_open (T : Tx K mg) : OkM P w K mg base 23 "Board" "is_open" ["self", "name", "user"] (spBrdOpenR K 13) := okr_Board_is_open T 13
theorem ok_Board_has (T : Tx K mg) : OkM P w K mg base 24 "Board" "has" ["self", "name", "user"] (spBrdHas K) := by
  refine OkM.mk' T.M_Board_has T.F_Board_has (fun _ _ _ _ _ _ us hl => match us, hl with | [_, _, _], _ => rfl) sc_Board_has (fun vs H Q E h => ?_) (fun cdv A outer s H vs Q E hr h => ?_)
  · obtain ⟨b, L, N, t, past, v, d, u, e, rfl, hA, hv, hfs, hu, q1, q2, q3⟩ := h
    rfl
  · obtain ⟨b, L, N, t, past, v, d, u, e, rfl, hA, hv, hfs, hu, q1, q2, q3⟩ := h
    refine ⟨(tSeq (tDrop (tMeth (He.ga K "Board") "need_switch" (spBrdNeed K) [] E (tVar 0) (tCons (tVar 1) tNil)))
      (tSeq (tDrop (tCall (spNeedUser K) [] E (tCons (tVar 2) tNil)))
      (tRet (tMeth (He.ga K "Board") "is_open" (spBrdOpenR K 13) [] E (tVar 0) (tCons (tVar 1) (tCons (tVar 2) tNil)))))), (pss_cons (ps_expr (pe_m (ok_Board_need_switch T) T.C_Board hr (pnx (L2N.takes_of rfl rfl rfl rfl)) (pv 0) (pa_cons (pv 1) pa_nil)))
      (pss_cons (ps_expr (pe_f (ok_need_user T) hr (pnx (L2N.takes_of rfl rfl rfl rfl)) (pa_cons (pv 2) pa_nil)))
      (pss_one (ps_ret (pe_m (ok_Board_is_open T) T.C_Board hr (pnx (L2N.takes_of rfl rfl rfl rfl)) (pv 0) (pa_cons (pv 1) (pa_cons (pv 2) pa_nil))))))), ?_⟩
    walk_at "0"
    obtain ⟨dx, d', ds, hb, hd, hL, hp⟩ := hA.ex
    walk_at "p"
    refine w_meth (w_var rfl ⟨b, dx, _, rfl, hb, rfl, ?_⟩)
    walk_at "g"
    refine ⟨b, L, N, t, past, v, d, rfl, hA, hv, hfs, fun hs H1 s1 => ?_, q2⟩
    walk_at "g"
    refine ⟨u, e, rfl, dp_s s1 hu, fun hus => ?_, fun hus => q3 hs hus _ s1⟩
    obtain ⟨z, rfl, hz⟩ := isSwT_str hs
    cases dp_str hv
    walk_at "p"
    refine w_meth (w_var rfl ⟨b, dx, _, rfl, s1 _ _ hb, rfl, ?_⟩)
    walk_at "g"
    exact ⟨b, L, N, t, past, z, u, e, rfl, hA.s s1, hz, dp_s s1 hu, hus, by have := rk_le (n := z) hA.ok; omega, fun H2 s2 => q1 z rfl hz hus _ (s1.trans s2)⟩
theorem okr__law_holds (T : Tx K mg) : ∀ n : Nat, Ok P w K mg base (1 + n) "_law_holds" ["condition", "land", "plan"] (spFitsR K n) := by
  intro n
  induction n with
  | zero =>
    refine (Ok.bot T.G__law_holds T.F__law_holds (fun _ _ _ _ _ _ us hl => match us, hl with | [_, _, _], _ => rfl)).imp (fun vs H Q E h => ?_)
    obtain ⟨v, d, l, p, k, rfl, hk, hd, sh, hp, q⟩ := h
    omega
  | succ n ih =>
  refine Ok.mk' (k := 1 + n) T.G__law_holds T.F__law_holds (fun _ _ _ _ _ _ us hl => match us, hl with | [_, _, _], _ => rfl) sc__law_holds (fun vs H Q E h => ?_) (fun cdv A outer s H vs Q E hr h => ?_)
  · obtain ⟨v, d, l, p, k, rfl, hk, hd, sh, hp, q⟩ := h
    rfl
  · obtain ⟨v, d, l, p, k, rfl, hk, hd, sh, hp, q⟩ := h
    refine ⟨(tSeq (tIfS (tTest (tOp (rIn K false) (tOp (rIxT K) (tVar 0) (tC (.int 0))) (tTup (tCons (tC (.str "land")) (tCons (tC (.str "plan")) tNil))))) (tRet (tOp (rIn K false) (tIf (tTest (tOp rEq (tOp (rIxT K) (tVar 0) (tC (.int 0))) (tC (.str "land")))) (tVar 1) (tVar 2)) (tOp (rIxT K) (tVar 0) (tC (.int 1))))) tNext)
      (tSeq (tIfS (tTest (tOp rEq (tOp (rIxT K) (tVar 0) (tC (.int 0))) (tC (.str "not")))) (tRet (tNotV (tCall (spFitsR K n) [] E (tCons (tOp (rIxT K) (tVar 0) (tC (.int 1))) (tCons (tVar 1) (tCons (tVar 2) tNil)))))) tNext)
      (tSeq (tFor (iTup K (tSl (rSlA K) (tVar 0) (tPart (tC (.int 1))) tNoPart)) (gName 3) (tIfS (tTest (tOp rNe (tCall (spFitsR K n) [] E (tCons (tVar 3) (tCons (tVar 1) (tCons (tVar 2) tNil)))) (tOp rEq (tOp (rIxT K) (tVar 0) (tC (.int 0))) (tC (.str "and"))))) (tRet (tOp rEq (tOp (rIxT K) (tVar 0) (tC (.int 0))) (tC (.str "or")))) tNext))
      (tRet (tOp rEq (tOp (rIxT K) (tVar 0) (tC (.int 0))) (tC (.str "and"))))))), (pss_cons (ps_if (pt_cmpR op_in_seq (pe_ix ix_tup (pv 0) pe_int (fun _ _ => rfl)) (pe_tup (pa_cons pe_str (pa_cons pe_str pa_nil))) (by rfl)) (pss_one (ps_ret (pe_cmpR op_in_seq (pe_ifExp (pt_cmpR op_eq (pe_ix ix_tup (pv 0) pe_int (fun _ _ => rfl)) pe_str (nomark _)) (pv 1) (pv 2)) (pe_ix ix_tup (pv 0) pe_int (fun _ _ => rfl)) (by rfl)))) pss_nil)
      (pss_cons (ps_if (pt_cmpR op_eq (pe_ix ix_tup (pv 0) pe_int (fun _ _ => rfl)) pe_str (nomark _)) (pss_one (ps_ret (pe_not (pe_f ih hr (pnx (L2N.takes_of rfl rfl rfl rfl)) (pa_cons (pe_ix ix_tup (pv 0) pe_int (fun _ _ => rfl)) (pa_cons (pv 1) (pa_cons (pv 2) pa_nil))))))) pss_nil)
      (pss_cons (ps_for (passes_of rfl) rfl (pi_tup (pe_slice sl_tupA (pv 0) (po_some pe_int) po_none)) (pg_name (i := 3) sc__law_holds.nd rfl (by first | exact Or.inl rfl | exact Or.inr rfl)) (pss_one (ps_if (pt_cmpR op_ne (pe_f ih hr (pnx (L2N.takes_of rfl rfl rfl rfl)) (pa_cons (pv 3) (pa_cons (pv 1) (pa_cons (pv 2) pa_nil)))) (pe_cmpR op_eq (pe_ix ix_tup (pv 0) pe_int (fun _ _ => rfl)) pe_str (nomark _)) (nomark _)) (pss_one (ps_ret (pe_cmpR op_eq (pe_ix ix_tup (pv 0) pe_int (fun _ _ => rfl)) pe_str (nomark _)))) pss_nil)))
      (pss_one (ps_ret (pe_cmpR op_eq (pe_ix ix_tup (pv 0) pe_int (fun _ _ => rfl)) pe_str (nomark _))))))), ?_⟩
    walk_at "0"
    obtain ⟨j, rfl⟩ : ∃ j, k = j + 1 := by
      cases k with
      | zero => exact absurd rfl hp
      | succ j => exact ⟨j, rfl⟩
    obtain ⟨z, a, r, rfl, hz⟩ := parts_inv hp
    walk_at "g"
    refine w_ixD0 hd fun u0 h0 => ?_
    cases dp_str h0
    walk_at "g"
    refine ⟨sz (by simp), fun t nt => ?_⟩
    have s1 : Same H (upd H t (.tup [.str "land", .str "plan"])) := Same.new nt
    refine w_inT (tupOf upd_same) rfl rfl ?_
    rw [inV_two]
    generalize upd H t (.tup [.str "land", .str "plan"]) = H1 at *
    have hd1 := dp_s s1 hd
    walk_at "g"
    refine if_b (fun hw => ?_) (fun hw => ?_)
    · walk_at "g"
      refine w_ixD0 hd1 fun u1 h1 => ?_
      cases dp_str h1
      walk_at "g"
      rcases hz with ⟨rfl, rfl, hr0⟩ | ⟨rfl, rfl, hr0⟩ | ⟨n1, n2, _⟩
      · refine if_t (decide_eq_true rfl) ?_
        obtain ⟨n0, ns, rfl, _⟩ := isRow_inv hr0
        walk_at "g"
        refine w_ixD1 hd1 fun u2 h2 => ?_
        obtain ⟨ad, xs, rfl, hx, hxs⟩ := dp_tuple h2
        cases dpAll_intsV hxs
        refine w_inT hx rfl (flat_ints _) ?_
        rw [inV_ints, ← inRowD_ints]
        rw [fitsD_land] at q
        exact q _ s1
      · refine if_f (by decide +kernel) ?_
        obtain ⟨n0, ns, rfl, _⟩ := isRow_inv hr0
        walk_at "g"
        refine w_ixD1 hd1 fun u2 h2 => ?_
        obtain ⟨ad, xs, rfl, hx, hxs⟩ := dp_tuple h2
        cases dpAll_intsV hxs
        refine w_inT hx rfl (flat_ints _) ?_
        rw [inV_ints, ← inRowD_ints]
        rw [fitsD_plan] at q
        exact q _ s1
      · simp [n1, n2] at hw
    · rcases hz with ⟨rfl, _⟩ | ⟨rfl, _⟩ | ⟨n1, n2, hg, hys⟩
      · simp at hw
      · simp at hw
      walk_at "g"
      refine w_ixD0 hd1 fun u1 h1 => ?_
      cases dp_str h1
      walk_at "g"
      by_cases hn : z = "not"
      · subst hn
        refine if_t (decide_eq_true rfl) ?_
        walk_at "g"
        refine w_ixD1 hd1 fun u2 h2 => ?_
        walk_at "g"
        refine ⟨u2, a, l, p, j, rfl, by omega, h2, okD_mem sh (by simp), hys a (by simp), fun H2 s2 => ?_⟩
        walk_at "g"
        rw [fitsD_not] at q
        exact q _ (s1.trans s2)
      · refine if_f (decide_eq_false hn) ?_
        have hao : z = "and" ∨ z = "or" := by
          rcases hg with ⟨e, _⟩ | ⟨e, _⟩
          · exact absurd e hn
          · exact e
        walk_at "g"
        obtain ⟨ad, xs, rfl, hx, hxs⟩ := dp_tuple hd1
        cases hxs with
        | cons hx0 hxs =>
        rename_i v0 xs
        refine w_sl1 hx fun p3 np3 => ?_
        have s3 : Same H1 (upd H1 p3 (.tup xs)) := Same.new np3
        have hp3 : (upd H1 p3 (.tup xs)) p3 = some (.tup xs) := upd_same
        generalize upd H1 p3 (.tup xs) = H3 at *
        walk_at "g"
        refine ⟨⟨xs, tupOf hp3⟩, ?_⟩
        have hxs3 := dps_s s3 hxs
        have hd3 := dp_s s3 hd1
        have hln : xs.length = (a :: r).length := dpAll_len hxs3
        refine for_go walk_tup (fun i σ H' => (∃ x, σ = [some (.ref ad), some (.int l), some (.int p), x]) ∧ Same H3 H' ∧ ∀ y ∈ (a :: r).take i, fitsD j y l p = decide (z = "and")) ⟨⟨_, rfl⟩, Same.refl _, fun _ h => by simp at h⟩ (fun i σ H' _ h => tupOf (h.2.1 _ _ hp3)) ?_ ?_
        · rintro i x σ H' H'' hi ⟨⟨x3, rfl⟩, s4, hall⟩ ⟨rfl, hxi⟩
          walk_at "g"
          obtain ⟨e, he, hde⟩ := dpAll_getV hxs3 hxi
          have em : e ∈ a :: r := List.mem_of_getElem? he
          refine ⟨x, e, l, p, j, rfl, by omega, dp_s s4 hde, okD_mem sh (List.mem_cons_of_mem _ em), hys e em, fun H5 s5 => ?_⟩
          walk_at "g"
          have hd5 := dp_s s5 (dp_s s4 hd3)
          refine w_ixD0 hd5 fun u3 h3 => ?_
          cases dp_str h3
          walk_at "g"
          refine w_neB ?_
          walk_at "g"
          have sT := (s1.trans s3).trans (s4.trans s5)
          refine if_b (fun hb => ?_) (fun hb => ?_)
          · walk_at "g"
            refine w_ixD0 hd5 fun u4 h4 => ?_
            cases dp_str h4
            walk_at "g"
            have eq : fitsD (j + 1) (.tuple (.str z :: a :: r)) l p = decide (z = "or") := by
              rcases hao with rfl | rfl
              · rw [fitsD_and]
                have e1 : fitsD j e l p = false := by simpa using hb
                rw [show decide (("and" : Str) = "or") = false by decide +kernel, List.all_eq_false]
                exact ⟨e, em, by rw [e1]; decide⟩
              · rw [fitsD_or]
                have e1 : fitsD j e l p = true := by
                  rw [show decide (("or" : Str) = "and") = false by decide +kernel] at hb
                  simpa using hb
                rw [decide_eq_true rfl, List.any_eq_true]
                exact ⟨e, em, e1⟩
            rw [← eq]
            exact q _ sT
          · walk_at "g"
            refine ⟨⟨_, rfl⟩, s4.trans s5, fun y hy => ?_⟩
            rw [List.take_add_one, he] at hy
            rcases List.mem_append.mp hy with hy | hy
            · exact hall y hy
            · have ey : y = e := by simpa using hy
              subst ey
              simpa using hb
        · rintro σ H' ⟨⟨x3, rfl⟩, s4, hall⟩
          walk_at "g"
          refine w_ixD0 (dp_s s4 hd3) fun u3 h3 => ?_
          cases dp_str h3
          walk_at "g"
          rw [List.take_of_length_le (by omega)] at hall
          have eq : fitsD (j + 1) (.tuple (.str z :: a :: r)) l p = decide (z = "and") := by
            rcases hao with rfl | rfl
            · rw [fitsD_and, decide_eq_true rfl, List.all_eq_true]
              intro y hy
              have := hall y hy
              simpa using this
            · rw [fitsD_or, show decide (("or" : Str) = "and") = false by decide +kernel, List.any_eq_false]
              intro y hy
              have := hall y hy
              rw [show decide (("or" : Str) = "and") = false by decide +kernel] at this
              rw [this]
              decide
          rw [← eq]
          exact q _ ((s1.trans s3).trans s4)
theorem ok__law_holds (T : Tx K mg) : Ok P w K mg base 7 "_law_holds" ["condition", "land", "plan"] (spFitsR K 6) := okr__law_holds T 6
theorem ok__law_share (T : Tx K mg) : Ok P w K mg base 8 "_law_share" ["rules", "land", "plan"] (spShareOf K) := by
  refine Ok.mk' T.G__law_share T.F__law_share (fun _ _ _ _ _ _ us hl => match us, hl with | [_, _, _], _ => rfl) sc__law_share (fun vs H Q E h => ?_) (fun cdv A outer s H vs Q E hr h => ?_)
  · obtain ⟨v, ds, l, p, rfl, hd, sh, hR, q⟩ := h
    rfl
  · obtain ⟨v, ds, l, p, rfl, hd, sh, hR, q⟩ := h
    refine ⟨(tSeq (tFor (iTup K (tVar 0)) (gTup K 2 (gCons (gName 3) (gCons (gName 4) gNil))) (tIfS (tB (tCall (spFitsR K 6) [] E (tCons (tVar 3) (tCons (tVar 1) (tCons (tVar 2) tNil))))) (tRet (tVar 4)) tNext))
      (tRet (tC (.int 0)))), (pss_cons (ps_for (passes_of rfl) rfl (pi_tup (pv 0)) (pg_tup (by rfl) (pgs_cons (pg_name (i := 3) sc__law_share.nd rfl (by first | exact Or.inl rfl | exact Or.inr rfl)) (pgs_cons (pg_name (i := 4) sc__law_share.nd rfl (by first | exact Or.inl rfl | exact Or.inr rfl)) pgs_nil))) (pss_one (ps_if (pt_val (pe_f (ok__law_holds T) hr (pnx (L2N.takes_of rfl rfl rfl rfl)) (pa_cons (pv 3) (pa_cons (pv 1) (pa_cons (pv 2) pa_nil))))) (pss_one (ps_ret (pv 4))) pss_nil)))
      (pss_one (ps_ret pe_int))), ?_⟩
    walk_at "0"
    walk_at "g"
    obtain ⟨a, xs, rfl, hx, hxs⟩ := dp_tuple hd
    walk_at "g"
    refine ⟨⟨xs, hx⟩, ?_⟩
    have hxl := dpAll_len hxs
    refine for_go walk_tup (fun i σ H' => (∃ x3 x4, σ = [some (.ref a), some (.int l), some (.int p), x3, x4]) ∧ Same H H' ∧ shareL ds l p = shareL (ds.drop i) l p) ⟨⟨_, _, rfl⟩, Same.refl _, rfl⟩ (fun i σ H' _ h => tup_s h.2.1 hx) ?_ ?_
    · rintro i x σ H' H'' hi ⟨⟨x3, x4, rfl⟩, s1, he⟩ ⟨rfl, hxi⟩
      obtain ⟨e, he2, hde⟩ := dpAll_getV hxs hxi
      have hm := List.mem_of_getElem? he2
      obtain ⟨c, m, rfl, hc, m0, m1⟩ := isRule_inv (areRules_mem hR hm)
      obtain ⟨a2, u, rfl, hs2, hu⟩ := dp_pair (dp_s s1 hde)
      refine w_gtup hs2 rfl ?_
      walk_at "g"
      refine ⟨u, c, l, p, 5, rfl, by decide, hu, okD_mem (okD_mem sh hm) (by simp), isCond_parts hc, fun H3 s3 => ?_⟩
      walk_at "g"
      rw [shareL_drop he2] at he
      cases hf : fitsD 5 c l p with
      | true =>
        walk_at "g"
        rw [hf] at he
        have he : shareL ds l p = m := he
        rw [← he]
        exact q _ (s1.trans s3)
      | false =>
        walk_at "g"
        rw [hf] at he
        exact ⟨⟨_, _, rfl⟩, s1.trans s3, he⟩
    · rintro σ H' ⟨⟨x3, x4, rfl⟩, s1, he⟩
      walk_at "g"
      rw [List.drop_of_length_le (by omega)] at he
      have he : shareL ds l p = 0 := he
      rw [← he]
      exact q _ s1
theorem ok__law_let (T : Tx K mg) : Ok P w K mg base 9 "_law_let" ["rules", "deal", "user"] (spLets K) := by
  refine Ok.mk' T.G__law_let T.F__law_let (fun _ _ _ _ _ _ us hl => match us, hl with | [_, _, _], _ => rfl) sc__law_let (fun vs H Q E h => ?_) (fun cdv A outer s H vs Q E hr h => ?_)
  · obtain ⟨v, w', u, ds, s', t', n, l, p, rfl, hd, sh, hR, hw, s0, s1, hu, q⟩ := h
    rfl
  · obtain ⟨v, w', u, ds, s', t', n, l, p, rfl, hd, sh, hR, hw, s0, s1, hu, q⟩ := h
    refine ⟨(tRet (tOp oLt (tOp oMod (tOp oAdd (tOp oMul (tOp (rIxT K) (tVar 2) (tC (.int 0))) (tOp (rIxT K) (tVar 1) (tC (.int 0)))) (tOp (rIxT K) (tVar 1) (tC (.int 1)))) (tC (.int 100))) (tCall (spShareOf K) [] E (tCons (tVar 0) (tCons (tOp (rIxT K) (tVar 2) (tC (.int 1))) (tCons (tOp (rIxT K) (tVar 2) (tC (.int 2))) tNil)))))), (pss_one (ps_ret (pe_cmpR op_lt (pe_op op_mod (pe_op op_add (pe_op op_mul (pe_ix ix_tup (pv 2) pe_int (fun _ _ => rfl)) (pe_ix ix_tup (pv 1) pe_int (fun _ _ => rfl))) (pe_ix ix_tup (pv 1) pe_int (fun _ _ => rfl))) pe_int) (pe_f (ok__law_share T) hr (pnx (L2N.takes_of rfl rfl rfl rfl)) (pa_cons (pv 0) (pa_cons (pe_ix ix_tup (pv 2) pe_int (fun _ _ => rfl)) (pa_cons (pe_ix ix_tup (pv 2) pe_int (fun _ _ => rfl)) pa_nil)))) (nomark _)))), ?_⟩
    walk_at "0"
    walk_at "g"
    refine w_ixD0 hu fun u0 h0 => ?_
    cases dp_int h0
    walk_at "g"
    refine w_ixD0 hw fun u3 h3 => ?_
    cases dp_int h3
    refine w_I (.inr ⟨by omega, by omega⟩) ?_
    walk_at "g"
    refine w_ixD1 hw fun u4 h4 => ?_
    cases dp_int h4
    walk_at "g"
    refine w_I (by decide) ?_
    walk_at "g"
    refine w_ixD1 hu fun u1 h1 => ?_
    cases dp_int h1
    walk_at "g"
    refine w_ixD2 hu fun u2 h2 => ?_
    cases dp_int h2
    walk_at "g"
    refine ⟨v, ds, l, p, rfl, hd, sh, hR, fun H2 s2 => ?_⟩
    walk_at "g"
    exact q _ s2
theorem okr__law_has (T : Tx K mg) : ∀ n : Nat, Ok P w K mg base (10 + n) "_law_has" ["table", "name", "user"] (spLHasR K n) := by
  intro n
  induction n with
  | zero =>
    refine (Ok.bot T.G__law_has T.F__law_has (fun _ _ _ _ _ _ us hl => match us, hl with | [_, _, _], _ => rfl)).imp (fun vs H Q E h => ?_)
    obtain ⟨Tb, t, z, u, d, rfl, hA, ok, hz, hu, hus, hn, q⟩ := h
    omega
  | succ n ih =>
  refine Ok.mk' (k := 10 + n) T.G__law_has T.F__law_has (fun _ _ _ _ _ _ us hl => match us, hl with | [_, _, _], _ => rfl) sc__law_has (fun vs H Q E h => ?_) (fun cdv A outer s H vs Q E hr h => ?_)
  · obtain ⟨Tb, t, z, u, d, rfl, hA, ok, hz, hu, hus, hn, q⟩ := h
    rfl
  · obtain ⟨Tb, t, z, u, d, rfl, hA, ok, hz, hu, hus, hn, q⟩ := h
    refine ⟨(tSeq (tAsg (tDGet (tVar 0) (tVar 1)) (gTup K 4 (gCons (gName 3) (gCons (gName 4) (gCons (gName 5) (gCons (gName 6) gNil))))))
      (tSeq (tIfS (tOr (tB (tVar 6)) (tNot (tB (tCall (spLets K) [] E (tCons (tVar 4) (tCons (tVar 3) (tCons (tVar 2) tNil))))))) (tRet (tC (.bl false))) tNext)
      (tRet (tCB (rAll K) (tCons (tLc (iTup K (tVar 5)) (gName 7) tYes (tCall (spLHasR K n) [] E0 (tCons (tVar 0) (tCons (tVar 7) (tCons (tVar 2) tNil)))) [7]) tNil))))), (pss_cons (ps_asg (pe_dget (hu1 hr) (pv 0) (pv 1) (fun _ _ => rfl)) (pg_tup (by rfl) (pgs_cons (pg_name (i := 3) sc__law_has.nd rfl (by first | exact Or.inl rfl | exact Or.inr rfl)) (pgs_cons (pg_name (i := 4) sc__law_has.nd rfl (by first | exact Or.inl rfl | exact Or.inr rfl)) (pgs_cons (pg_name (i := 5) sc__law_has.nd rfl (by first | exact Or.inl rfl | exact Or.inr rfl)) (pgs_cons (pg_name (i := 6) sc__law_has.nd rfl (by first | exact Or.inl rfl | exact Or.inr rfl)) pgs_nil))))))
      (pss_cons (ps_if (PW.pt (pw_or (pt_val (pv 6)) (pw_or1 (pt_not (pt_val (pe_f (ok__law_let T) hr (pnx (L2N.takes_of rfl rfl rfl rfl)) (pa_cons (pv 4) (pa_cons (pv 3) (pa_cons (pv 2) pa_nil))))))))) (pss_one (ps_ret pe_bl)) pss_nil)
      (pss_one (ps_ret (pe_callB (cr_all rfl) (by rfl) T.Z_all (by decide +kernel) (pa_cons (pe_lc (own := [("other", 7)]) rfl sc__law_has.nd (pi_tup (pv 5)) (blkOk_by (own := [("other", 7)]) (N := ["table", "name", "user", "deal", "rules", "needs", "dim", "other"]) (sc := defScope s__law_has) (by decide +kernel)) (fun _ _ _ _ _ => (pg_name (i := 7) sc__law_has.nd rfl (by first | exact Or.inl rfl | exact Or.inr rfl))) (fun _ _ _ _ _ => pts_nil) (fun _ _ _ _ _ => (pe_f ih hr pn0 (pa_cons (pv 0) (pa_cons (pv 7) (pa_cons (pv 2) pa_nil)))))) pa_nil)))))), ?_⟩
    walk_at "0"
    obtain ⟨kvs, hk, hr2⟩ := hA
    obtain ⟨r, er⟩ := rowOf_some.mpr hz
    obtain ⟨uu, eu, hrow⟩ := hr2.val er
    obtain ⟨p, ud, ur, un, rfl, hpt, h1, h2, h3⟩ := row_at hrow
    have hro := ok.row z r er
    have hle := needs_len ok er
    have eop := openT_row (u := d) ok er
    walk_at "p"
    refine w_dget (w_var rfl (w_var rfl ?_))
    refine a_dgetS hk eu ?_
    refine w_gtup hpt rfl ?_
    walk_at "g"
    refine if_b (fun hdm => ?_) (fun hdm => ?_)
    · walk_at "g"
      rw [hdm] at eop
      have e : openT t d z = false := eop
      rw [← e]
      exact q _ (Same.refl _)
    · obtain ⟨rs, ers⟩ := areRules_inv hro.rules
      obtain ⟨s', t', eds, s0, s1', _⟩ := isDeal_is hro.deal
      obtain ⟨n', l, p', rfl, _⟩ := isUser_is hus
      walk_at "g"
      refine ⟨ur, ud, u, rs, s', t', n', l, p', rfl, ers ▸ h2, ers ▸ hro.ok, ers ▸ hro.rules, eds ▸ h1, s0, s1', hu, fun H1 s1 => ?_⟩
      have el : decide ((n' * s' + t') % 100 < shareL rs l p') = letsD r.rules r.deal (.tuple [.int n', .int l, .int p']) := by
        rw [ers, eds]
        rfl
      rw [el]
      walk_at "g"
      rw [hdm] at eop
      refine if_b (fun hl => ?_) (fun hl => ?_)
      · have hl : letsD r.rules r.deal (.tuple [.int n', .int l, .int p']) = false := by simpa using hl
        walk_at "g"
        rw [hl] at eop
        have e : openT t (.tuple [.int n', .int l, .int p']) z = false := eop
        rw [← e]
        exact q _ s1
      · have hl : letsD r.rules r.deal (.tuple [.int n', .int l, .int p']) = true := by simpa using hl
        rw [hl, Bool.true_and, Bool.not_false, Bool.true_and] at eop
        cases h3 with
        | @tup pa _ _ hn3 ht =>
        cases strs_dps ht
        walk_at "g"
        refine ⟨⟨_, RG.Same.tup s1 hn3⟩, ?_⟩
        refine lc_pure (walk_tup (K := K) (a := pa) (xs := r.needs.map V.str)) (by rw [List.length_map]; omega) (r.needs.map fun m => [V.bl (openT t (.tuple [.int n', .int l, .int p']) m)]) (by simp) (fun H' s => RG.Same.tup (s1.trans s) hn3) ?_ ?_
        · rintro C j acc y G' G'' hC hj hacc hG' iv ⟨rfl, hy⟩
          rw [List.length_map] at hj
          rw [List.getElem?_map] at hy
          obtain ⟨m, hm, rfl⟩ := Option.map_eq_some_iff.mp hy
          have hmm := List.mem_of_getElem? hm
          have s2 := s1.trans iv.1
          walk_at "g"
          refine ⟨rfl, ?_⟩
          walk_at "g"
          refine ⟨Tb, t, m, u, _, rfl, ⟨kvs, rd_s s2 hk, hr2.s s2⟩, ok, hro.mem m hmm, dp_s s2 hu, hus, ?_, fun H2 s3 => ?_⟩
          · have := rk_lt ok er hmm
            omega
          · refine lcp_nx hC (by omega) hacc hG' iv s3 ?_
            rw [List.getElem?_map, hm]
            rfl
        · intro C H2 nC s2 hC
          rw [flat_one (fun m => V.bl (openT t (.tuple [.int n', .int l, .int p']) m))] at hC
          walk_at "g"
          refine w_all (bs := r.needs.map (openT t (.tuple [.int n', .int l, .int p']))) (lstOf (by rw [hC, List.map_map]; rfl)) ?_
          have e : (r.needs.map (openT t (.tuple [.int n', .int l, .int p']))).all id = openT t (.tuple [.int n', .int l, .int p']) z := by
            rw [eop, List.all_map]
            rfl
          rw [e]
          exact q _ (s1.trans s2)
theorem ok__law_has (T : Tx K mg) : Ok P w K mg base 23 "_law_has" ["table", "name", "user"] (spLHasR K 13) := okr__law_has T 13
theorem ok__law_like (T : Tx K mg) : Ok P w K mg base 25 "_law_like" ["board", "table", "users"] (spLLike2 K) := by
  refine Ok.mk' T.G__law_like T.F__law_like (fun _ _ _ _ _ _ us hl => match us, hl with | [_, _, _], _ => rfl) sc__law_like (fun vs H Q E h => ?_) (fun cdv A outer s H vs Q E hr h => ?_)
  · obtain ⟨b, L, N, t', past, Tb, t, U, us, vus, rfl, hA, hN, hX, okt, t5, hE, hU, hus, hall, q⟩ := h
    rfl
  · obtain ⟨b, L, N, t', past, Tb, t, U, us, vus, rfl, hA, hN, hX, okt, t5, hE, hU, hus, hall, q⟩ := h
    refine ⟨(tSeq (tIfS (tOr (tTest (tOp (rNeD K) (tMeth (He.ga K "Board") "names" (spBrdNames K) [] E (tVar 0) tNil) (tCB rSortDS (tCons (tVar 1) tNil)))) (tOr (tTest (tOp rNe (tCB (rLenO (He.ga K "Board") (spBrdLen K) E) (tCons (tVar 0) tNil)) (tCB rLenD (tCons (tVar 1) tNil)))) (tTest (tOp rNe (tCB (rStrO (He.ga K "Board") (spBrdStr K) E) (tCons (tVar 0) tNil)) (tM1 (rJoin K) (tC (.str ",")) (tCB rSortDS (tCons (tVar 1) tNil))))))) (tRet (tC (.bl false))) tNext)
      (tSeq (tLock (tFor (iKeys (tVar 1)) (gName 3) (tSeq (tIfS (tTest (tOp (rNeD K) (tMeth (He.ga K "Board") "switch" (spBrdSwitch K) [] E (tVar 0) (tCons (tVar 3) tNil)) (tDGet (tVar 1) (tVar 3)))) (tRet (tC (.bl false))) tNext)
      (tFor (iList K (tVar 2)) (gName 4) (tSeq (tAsg (tMeth (He.ga K "Board") "has" (spBrdHas K) [] E (tVar 0) (tCons (tVar 3) (tCons (tVar 4) tNil))) (gName 5))
      (tIfS (tOr (tNot (tB (tCB (rIsi K) (tCons (tVar 5) (tCons (tC (.ty "bool")) tNil))))) (tTest (tOp rNe (tVar 5) (tCall (spLHasR K 13) [] E (tCons (tVar 1) (tCons (tVar 3) (tCons (tVar 4) tNil))))))) (tRet (tC (.bl false))) tNext))))))
      (tRet (tC (.bl true))))), (pss_cons (ps_if (PW.pt (pw_or (pt_cmpR (op_neD hr.units) (pe_m0 (ok_Board_names T) T.C_Board hr (pnx (L2N.takes_of rfl rfl rfl rfl)) (pv 0)) (pe_callB (call_sortedD rfl) (by rfl) T.Z_sorted (by decide +kernel) (pa_cons (pv 1) pa_nil)) (nomark _)) (pw_or (pt_cmpR op_ne (pe_callB (call_lenO (ok_Board___len__ T) hr (pnx (L2N.takes_of rfl rfl rfl rfl))) (by rfl) T.Z_len (by decide +kernel) (pa_cons (pv 0) pa_nil)) (pe_callB call_lenD (by rfl) T.Z_len (by decide +kernel) (pa_cons (pv 1) pa_nil)) (nomark _)) (pw_or1 (pt_cmpR op_ne (pe_callTy (call_strO (ok_Board___str__ T) hr (pnx (L2N.takes_of rfl rfl rfl rfl))) (by rfl) T.Z_str (by decide +kernel) (pa_cons (pv 0) pa_nil)) (pe_join pe_str (pe_callB (call_sortedD rfl) (by rfl) T.Z_sorted (by decide +kernel) (pa_cons (pv 1) pa_nil))) (nomark _)))))) (pss_one (ps_ret pe_bl)) pss_nil)
      (pss_cons (ps_lock (ps_for (passes_of rfl) rfl (pi_keys (pv 1)) (pg_name (i := 3) sc__law_like.nd rfl (by first | exact Or.inl rfl | exact Or.inr rfl)) (pss_cons (ps_if (pt_cmpR (op_neD hr.units) (pe_m (ok_Board_switch T) T.C_Board hr (pnx (L2N.takes_of rfl rfl rfl rfl)) (pv 0) (pa_cons (pv 3) pa_nil)) (pe_dget (hu1 hr) (pv 1) (pv 3) (fun _ _ => rfl)) (nomark _)) (pss_one (ps_ret pe_bl)) pss_nil)
      (pss_one (ps_for (passes_of rfl) rfl (pi_list (pv 2)) (pg_name (i := 4) sc__law_like.nd rfl (by first | exact Or.inl rfl | exact Or.inr rfl)) (pss_cons (ps_set (i := 5) sc__law_like.nd rfl (by first | exact Or.inl rfl | exact Or.inr rfl) (pe_m (ok_Board_has T) T.C_Board hr (pnx (L2N.takes_of rfl rfl rfl rfl)) (pv 0) (pa_cons (pv 3) (pa_cons (pv 4) pa_nil))))
      (pss_one (ps_if (PW.pt (pw_or (pt_not (pt_val (pe_callB call_isi (by rfl) T.Z_isinstance (by decide +kernel) (pa_cons (pv 5) (pa_cons (pe_bltn (v := .ty "bool") (by rfl) T.Z_bool (by decide +kernel) rfl) pa_nil))))) (pw_or1 (pt_cmpR op_ne (pv 5) (pe_f (ok__law_has T) hr (pnx (L2N.takes_of rfl rfl rfl rfl)) (pa_cons (pv 1) (pa_cons (pv 3) (pa_cons (pv 4) pa_nil)))) (nomark _))))) (pss_one (ps_ret pe_bl)) pss_nil))))))))
      (pss_one (ps_ret pe_bl)))), ?_⟩
    walk_at "0"
    obtain ⟨dx, d', ds, hb, hd, hL, hp⟩ := hA.ex
    obtain ⟨kvs, hk, hr2⟩ := hX
    have ok' := hA.ok
    have hlen := okt.len
    have hll := hE.len okt ok'
    walk_at "g"
    refine w_meth (w_var rfl ⟨b, dx, _, rfl, hb, rfl, ?_⟩)
    walk_at "g"
    refine ⟨b, L, N, t', past, rfl, hA, fun ys p H1 y s1 np hp1 => ?_⟩
    have y := hE.srt okt ok' y
    have hyl := y.len
    have gys : Gd 64 (.list (ys.map PyData.str)) := gd_namesL (n := 63) (fun z hz => okt.nm z (y.mem.mp hz)) (by omega)
    walk_at "g"
    refine w_sortT (.inl (s1 _ _ hk)) (hr2.s s1) hlen fun ys' F H2 y' s2 nF hF => ?_
    cases y'.uniq okt y
    refine w_neD (d := .list (ys.map PyData.str)) (e := .list (ys.map PyData.str)) (.lst (lstOf (s2 _ _ hp1)) (dps_strsB ys)) (.lst (lstOf hF) (dps_strsB ys)) gys.sh gys.sh ?_
    rw [eqv_lay gys]
    have s02 := s1.trans s2
    walk_at "g"
    refine ⟨b, dx, _, rfl, s02 _ _ hb, b, L, N, t', past, rfl, hA.s s02, t'.length, rfl, by omega, ?_⟩
    walk_at "g"
    refine w_lenK (s02 _ _ hk) ?_
    rw [hr2.len, hll]
    walk_at "g"
    rw [decide_eq_true rfl]
    walk_at "g"
    refine ⟨b, dx, _, rfl, s02 _ _ hb, b, L, N, t', past, rfl, hA.s s02, fun ys2 H3 y2 s3 => ⟨_, rfl, ?_⟩⟩
    cases (hE.srt okt ok' y2).uniq okt y
    have s03 := s02.trans s3
    walk_at "g"
    refine w_m1 (w_c ⟨⟨_, rfl⟩, ?_⟩)
    walk_at "g"
    refine w_sortT (.inl (s03 _ _ hk)) (hr2.s s03) hlen fun ys3 F3 H4 y3 s4 nF3 hF3 => ?_
    cases y3.uniq okt y
    have s04 := s03.trans s4
    refine w_joinT okt y hF3 ?_
    refine w_ne rfl ?_
    rw [decide_eq_true rfl]
    walk_at "g"
    refine w_lockS (s04 _ _ hk) True.intro fun od => ?_
    have hA5 := lockT (od := od) (hA.s s04) hN (s04 _ _ hk)
    have hr5 : TabR K (upd H4 Tb (.frz od (.dK kvs))) kvs t := (hr2.s s04).tups (tups_upd (s04 _ _ hk) True.intro) okt.imm
    have hl2 : (upd H4 Tb (.frz od (.dK kvs))) Tb = some (.frz od (.dK kvs)) := upd_same
    have hU5 : (upd H4 Tb (.frz od (.dK kvs))) U = some (.lst vus) := by
      rw [upd_ne (ne_of hU hk (by intro z; cases z))]
      exact s04 _ _ hU
    have him : immAll us = true := immAll_mem fun u hu => user_imm (hall u hu)
    have hus5 : DpAll K (upd H4 Tb (.frz od (.dK kvs))) vus us := dps_tups (tups_upd (s04 _ _ hk) True.intro) him (dps_s s04 hus)
    have lk : ∀ H3, Same (upd H4 Tb (.frz od (.dK kvs))) H3 → Same H4 (upd H3 Tb (.dK kvs)) := fun H3 s => lock_same (s04 _ _ hk) s
    generalize upd H4 Tb (.frz od (.dK kvs)) = HL at *
    walk_at "g"
    refine w_iKeys (w_var rfl ⟨Tb, od, rfl, .inl ⟨kvs, hl2, ?_⟩⟩)
    refine for_go (walk_keys (kvs := kvs)) (fun i σ H' => (∃ x3 x4 x5, σ = [some (.ref b), some (.ref Tb), some (.ref U), x3, x4, x5]) ∧ Same HL H') ⟨⟨_, _, _, rfl⟩, Same.refl _⟩ (fun i σ H' _ x => x.2 _ _ hl2) ?_ ?_
    · rintro i x σ H' H'' hi ⟨⟨x3, x4, x5, rfl⟩, s6⟩ ⟨rfl, k, v, hkv, rfl⟩
      obtain ⟨n, r, rfl, hti, hdv⟩ := hr5.at hkv
      have er : rowOf t n = some r := rowOf_of_mem (p := (n, r)) okt.nd (List.mem_of_getElem? hti)
      have er' : rowOf t' n = some r := by rw [hE n, er]
      have hnm := rowOf_mem er
      have hnm' := rowOf_mem er'
      have gr := row_gd okt t5 er
      have hfs : fitS (.str n) := Nat.le_trans (name_len (okt.nm n hnm)) (by decide)
      obtain ⟨v', ev, hdv'⟩ := hr5.val er
      obtain ⟨dx6, d6, ds6, hb6, _⟩ := (hA5.s s6).ex
      rw [kV_str]
      walk_at "p"
      walk_at "g"
      refine w_meth (w_var rfl ⟨b, dx6, _, rfl, hb6, rfl, ?_⟩)
      walk_at "g"
      refine ⟨b, L, N, t', past, .str n, .str n, rfl, hA5.s s6, .str n, hfs, fun z r' ez er2 u7 H7 s7 hu7 => ?_, fun hno => ?_⟩
      · cases ez
        cases er'.symm.trans er2
        have s67 := s6.trans s7
        walk_at "g"
        refine w_dget (w_var rfl (w_var rfl ?_))
        refine a_dgetS (.inr ⟨od, s67 _ _ hl2⟩) ev ?_
        refine w_neD hu7 (dp_s s67 hdv') gr.sh gr.sh ?_
        rw [eqv_lay gr]
        walk_at "g"
        refine ⟨⟨_, lstOf (s67 _ _ hU5)⟩, ?_⟩
        refine for_go (walk_list (K := K) (a := U) (xs := vus)) (fun i σ H' => (∃ x4 x5, σ = [some (.ref b), some (.ref Tb), some (.ref U), some (.str n), x4, x5]) ∧ Same HL H') ⟨⟨_, _, rfl⟩, s67⟩ (fun i σ H' _ x => lstOf (x.2 _ _ hU5)) ?_ ?_
        · rintro j xu σ G' G'' hj ⟨⟨x4, x5, rfl⟩, s8⟩ ⟨rfl, hxj⟩
          obtain ⟨e, he, hde⟩ := dpAll_getV hus5 hxj
          have hue := hall e (List.mem_of_getElem? he)
          obtain ⟨dx8, d8, ds8, hb8, _⟩ := (hA5.s s8).ex
          walk_at "p"
          refine w_meth (w_var rfl ⟨b, dx8, _, rfl, hb8, rfl, ?_⟩)
          walk_at "g"
          refine ⟨b, L, N, t', past, .str n, .str n, xu, e, rfl, hA5.s s8, .str n, hfs, dp_s s8 hde, fun z ez _ _ H9 s9 => ?_, fun hno => ?_, fun _ hno => ?_⟩
          · cases ez
            have s89 := s8.trans s9
            walk_at "g"
            refine isi_bool (.bl _) ?_
            walk_at "g"
            refine ⟨Tb, t, n, xu, e, rfl, ⟨kvs, .inr ⟨od, s89 _ _ hl2⟩, hr5.s s89⟩, okt, hnm, dp_s s89 hde, hue, by have := rk_le (n := n) okt; omega, fun H10 s10 => ?_⟩
            refine w_neB ?_
            rw [show openT t' e n = openT t e n from hE.open_ e 13 n, bne_self_eq_false]
            walk_at "g"
            exact ⟨⟨_, _, rfl⟩, s89.trans s10⟩
          · exact absurd (show isSwT t' (.str n) = true from decide_eq_true hnm') (by rw [hno]; simp)
          · exact absurd hue (by rw [hno]; simp)
        · rintro σ G' ⟨⟨x4, x5, rfl⟩, s8⟩
          exact ⟨⟨_, _, _, rfl⟩, s8⟩
      · exact absurd (show isSwT t' (.str n) = true from decide_eq_true hnm') (by rw [hno]; simp)
    · rintro σ H' ⟨⟨x3, x4, x5, rfl⟩, s6⟩
      refine ⟨s6 _ _ hl2, ?_⟩
      walk_at "g"
      exact q _ (s04.trans (lk _ s6))
theorem ok_Board_take_back (T : Tx K mg) : OkM P w K mg base 1 "Board" "take_back" ["self"] (spBrdBack K) := by
  refine OkM.mk' T.M_Board_take_back T.F_Board_take_back (fun _ _ _ _ _ _ us hl => match us, hl with | [_], _ => rfl) sc_Board_take_back (fun vs H Q E h => ?_) (fun cdv A outer s H vs Q E hr h => ?_)
  · obtain ⟨b, L, N, t, past, rfl, hA, q1, q2⟩ := h
    rfl
  · obtain ⟨b, L, N, t, past, rfl, hA, q1, q2⟩ := h
    refine ⟨(tSeq (tIfS (tTest (tOp (rEqE K) (tFld K (tVar 0) "past") (tLst tNil))) (tRz K E "Nothing") tNext)
      (sFld K (tVar 0) (tBM0 K "list" rPop (tFld K (tVar 0) "past")) "table")), (pss_cons (ps_if (pt_cmpR (op_eqE (Nat.lt_of_succ_lt (hu1 hr))) (pe_fld (pv 0) rfl) (pe_lst pa_nil) (nomark _)) (pss_one (ps_rz T.X_Nothing (L2N.takes_of rfl rfl rfl rfl))) pss_nil)
      (pss_one (ps_fld (pv 0) (pe_bm0 PySem.F.plainAttrs_list PySem.F.slot_list_pop PySem.F.type_list_pop mt_pop (pe_fld (pv 0) rfl)) rfl))), ?_⟩
    walk_at "0"
    obtain ⟨dx, d, ds, hb, hd, hL, hp⟩ := hA.ex
    have hbL := hA.ne
    walk_at "g"
    refine w_tfld (w_var rfl ⟨b, _, dx, _, .ref L, rfl, hb, T.C_Board, T.N_Board_past, rfl, ?_⟩)
    walk_at "g"
    refine w_newL (by simp) fun E0 H1 s1 nE hE => ?_
    refine ⟨L, E0, ds.map V.ref, rfl, rfl, lstOf (s1 _ _ hL), lstOf hE, ?_⟩
    have hA1 := hA.s s1
    rcases List.eq_nil_or_concat past with rfl | ⟨p0, t0, rfl⟩
    · cases hp
      walk_at "g"
      exact q1 rfl _ s1
    · rw [List.concat_eq_append] at q2 hp hA1
      obtain ⟨ds0, d0, rfl, h1, h2, h3⟩ := hp.unsnoc
      rw [decide_eq_false (by simp)]
      walk_at "g"
      have hb1 := s1 _ _ hb
      have hL1 := s1 _ _ hL
      refine w_sfld (w_bm0 (w_tfld (w_var rfl ⟨b, _, dx, _, .ref L, rfl, hb1, T.C_Board, T.N_Board_past, rfl, tyL hL1, L, _, .ref d0, rfl, rfl, hL1, by simp, ?_⟩)))
      have eL : ((ds0 ++ [d0]).map V.ref).dropLast = ds0.map V.ref := by simp
      rw [eL]
      refine w_var rfl ⟨b, _, dx, _, rfl, by rw [upd_ne hbL]; exact hb1, T.C_Board, T.N_Board_table, by simp, ?_⟩
      have k2 : Bd b L H1 (upd (upd H1 L (.lst (ds0.map V.ref))) b (.ins (He.ga K "Board") dx (putF "table" (.ref d0) [("table", .ref d), ("past", .ref L)]))) := ((Bd.of (Same.refl _)).putL).putb
      have nt : NtA (fun x => x = b ∨ x = L) H1 := fun x o hx ho => by
        rcases hx with e | e
        · rw [e, hb1] at ho
          cases ho
          exact trivial
        · rw [e, hL1] at ho
          cases ho
          exact trivial
      have kt := kpb_tups (K := K) k2.kpb nt
      have kd : ∀ e kvs, ¬ N e → H1 e = some (.dK kvs) → (upd (upd H1 L (.lst (ds0.map V.ref))) b (.ins (He.ga K "Board") dx (putF "table" (.ref d0) [("table", .ref d), ("past", .ref L)]))) e = some (.dK kvs) := fun e kvs _ z => by
        rw [upd_ne (ne_of z hb1 (by intro w; cases w)), upd_ne (ne_of z hL1 (by intro w; cases w))]
        exact z
      have h1' : Pst K N H1 ds0 p0 := h1.keep (fun d kvs _ z => s1 _ _ z) fun _ _ z => RG.Same.tup s1 z
      have h2' : DicAt K N H1 d0 t0 := h2.keep h3 (fun kvs z => s1 _ _ z) fun _ _ z => RG.Same.tup s1 z
      exact q2 p0 t0 rfl _ ((Bd.of s1).trans k2) ⟨h3, dx, d0, ds0, upd_same, h2'.keep h3 (fun kvs z => kd d0 kvs h2'.nn z) kt, by rw [upd_ne hbL.symm, upd_same], h1'.keep kd kt⟩
section
variable {t t' u : Tab} {x : BDeed} {z : Str}
theorem rowOf_in {n : Str} {r : BRow} (h : rowOf t n = some r) : (n, r) ∈ t := by
  induction t with
  | nil => cases h
  | cons p t ih =>
    rw [rowOf_cons] at h
    by_cases e : p.1 = n
    · rw [if_pos e] at h
      cases h
      rw [← e]
      exact List.mem_cons_self
    · rw [if_neg e] at h
      exact List.mem_cons_of_mem _ (ih h)
theorem EqR2.refl (t : Tab) : EqR2 t t := fun _ => rfl
theorem EqR2.symm (h : EqR2 t t') : EqR2 t' t := fun n => (h n).symm
theorem EqR2.t5 (h : EqR2 t t') (t5 : Tab5 t) : Tab5 t' := ⟨fun n hn => t5.nm n ((h.mem n).mp hn), fun n r e => t5.rl n r (by rw [← h n]; exact e)⟩
theorem EqR2.deed (h : EqR2 t t') (hx : DeedOk t x) : DeedOk t' x := by
  cases x with
  | need z ns => exact ⟨hx.1, fun m hm => (h.mem m).mpr (hx.2.1 m hm), hx.2.2⟩
  | put z dl rs => exact hx
  | rule z rs => exact hx
  | dark z b => exact hx
  | drop z => exact hx
theorem EqR2.put (h : EqR2 t t') (r : BRow) : EqR2 (putT t z r) (putT t' z r) := fun n => by rw [rowOf_put, rowOf_put, h n]
theorem EqR2.drop (h : EqR2 t t') : EqR2 (dropT t z) (dropT t' z) := fun n => by rw [rowOf_drop, rowOf_drop, h n]
theorem EqR2.rch (h : EqR2 t t') {a b : Str} : Rch t' a b ↔ Rch t a b := ⟨rch_sub fun n r e => ⟨r, by rw [← h n]; exact e, fun _ m => m⟩, rch_sub fun n r e => ⟨r, by rw [h n]; exact e, fun _ m => m⟩⟩
open Classical in
theorem dite_of {P Q : List Str → Prop} (e : P = Q) : (if h : ∃ ys, P ys then Classical.choose h else []) = (if h : ∃ ys, Q ys then Classical.choose h else []) := by
  subst e
  rfl
theorem EqR2.srtL (h : EqR2 t t') (ok : TabOk t) (ok' : TabOk t') : srtL t' = srtL t := by
  have e : SrtT t' = SrtT t := funext fun ys => propext ⟨fun y => h.srt ok ok' y, fun y => h.symm.srt ok' ok y⟩
  unfold RG.srtL
  exact dite_of e
theorem EqR2.need (h : EqR2 t t') : needIn t' z = needIn t z := funext fun o => by
  unfold needIn
  rw [h o]
/-- a deed of two boards alike -/
theorem EqR2.due (h : EqR2 t t') (ok : TabOk t) (ok' : TabOk t') (t5 : Tab5 t) (hx : DeedOk t x) : resD (dueR t' x) = resD (dueR t x) ∧ EqR2 (resT t (dueR t x)) (resT t' (dueR t' x)) := by
  have t5' := h.t5 t5
  have hx' := h.deed hx
  cases x with
  | put z dl rs =>
    rw [due_put ok t5 hx, due_put ok' t5' hx']
    by_cases hz : z ∈ namesT t
    · rw [if_pos hz, if_pos ((h.mem z).mpr hz)]
      exact ⟨rfl, h⟩
    · rw [if_neg hz, if_neg fun w => hz ((h.mem z).mp w)]
      exact ⟨rfl, h.put _⟩
  | rule z rs =>
    cases e : rowOf t z with
    | none =>
      rw [(due_no (rs := rs) (ns := []) (x := true) e).1, (due_no (rs := rs) (ns := []) (x := true) (show rowOf t' z = none by rw [h z, e])).1]
      exact ⟨rfl, h⟩
    | some r =>
      rw [due_rule hx e, due_rule hx' (by rw [h z, e])]
      exact ⟨rfl, h.put _⟩
  | need z ns =>
    cases e : rowOf t z with
    | none =>
      rw [(due_no (rs := []) (ns := ns) (x := true) e).2.1, (due_no (rs := []) (ns := ns) (x := true) (show rowOf t' z = none by rw [h z, e])).2.1]
      exact ⟨rfl, h⟩
    | some r =>
      rw [due_need hx e, due_need hx' (by rw [h z, e])]
      by_cases hr : ∃ m ∈ ns, Rch t m z
      · rw [if_pos hr, if_pos (by obtain ⟨m, hm, p⟩ := hr; exact ⟨m, hm, h.rch.mpr p⟩)]
        exact ⟨rfl, h⟩
      · rw [if_neg hr, if_neg (by rintro ⟨m, hm, p⟩; exact hr ⟨m, hm, h.rch.mp p⟩)]
        exact ⟨rfl, h.put _⟩
  | dark z b =>
    cases e : rowOf t z with
    | none =>
      rw [(due_no (rs := []) (ns := []) (x := b) e).2.2.1, (due_no (rs := []) (ns := []) (x := b) (show rowOf t' z = none by rw [h z, e])).2.2.1]
      exact ⟨rfl, h⟩
    | some r =>
      rw [due_dark e, due_dark (show rowOf t' z = some r by rw [h z, e])]
      exact ⟨rfl, h.put _⟩
  | drop z =>
    show resD (dropR t' (.str z)) = resD (dropR t (.str z)) ∧ EqR2 (resT t (dropR t (.str z))) (resT t' (dropR t' (.str z)))
    unfold dropR
    rw [swRow_str, swRow_str, h z, h.srtL ok ok']
    cases rowOf t z with
    | none => exact ⟨rfl, h⟩
    | some r =>
      simp only [Option.map_some, h.need (z := z)]
      cases (RG.srtL t).find? (needIn t z) with
      | some o => exact ⟨rfl, h⟩
      | none => exact ⟨rfl, h.drop⟩
theorem valP_tab (t : Tab) (n : Str) : valP (tabP t) (.inr n) = (rowOf t n).map BRow.dat := by
  induction t with
  | nil => rfl
  | cons p t ih =>
    rw [rowOf_cons]
    unfold tabP valP at ih ⊢
    rw [List.map_cons, List.find?_cons]
    by_cases e : p.1 = n
    · rw [if_pos e, e]
      simp
    · rw [if_neg e]
      have : decide ((Sum.inr p.1 : Key) = .inr n) = false := decide_eq_false fun z => e (Sum.inr.inj z)
      simp only [this]
      exact ih
/-- equal as maps -/
theorem eqTab_iff (ok : TabOk t) : eqTab t u = true ↔ t.length = u.length ∧ ∀ n r, rowOf t n = some r → ∃ s, rowOf u n = some s ∧ PyData.eqv r.dat s.dat = true := by
  unfold eqTab eqDc
  rw [Bool.and_eq_true, decide_eq_true_eq, List.all_eq_true, show (tabP t).length = t.length from List.length_map .., show (tabP u).length = u.length from List.length_map ..]
  refine and_congr_right fun _ => ⟨fun h n r e => ?_, fun h p hp => ?_⟩
  · have hm : ((.inr n : Key), r.dat) ∈ tabP t := List.mem_map.mpr ⟨(n, r), rowOf_in e, rfl⟩
    have := h _ hm
    unfold hitD at this
    rw [valP_tab] at this
    cases e2 : rowOf u n with
    | none =>
      rw [e2] at this
      cases this
    | some s =>
      rw [e2] at this
      exact ⟨s, rfl, this⟩
  · obtain ⟨⟨n, r⟩, hx, rfl⟩ := List.mem_map.mp hp
    obtain ⟨s, e2, e3⟩ := h n r (rowOf_of_mem (p := (n, r)) ok.nd hx)
    unfold hitD
    simp only
    rw [valP_tab, e2]
    exact e3
theorem eqTab_comm (ok : TabOk t) (uk : TabOk u) : eqTab t u = eqTab u t := by
  have key : ∀ {t u : Tab}, TabOk t → TabOk u → eqTab t u = true → eqTab u t = true := fun {t u} ok uk h => by
    obtain ⟨h1, h2⟩ := (eqTab_iff ok).mp h
    refine (eqTab_iff uk).mpr ⟨h1.symm, fun n s e => ?_⟩
    have hsub : ∀ m ∈ namesT t, m ∈ namesT u := fun m hm => by
      obtain ⟨r, er⟩ := rowOf_some.mpr hm
      obtain ⟨s, es, _⟩ := h2 m r er
      exact rowOf_mem es
    have hsup : n ∈ namesT t := Classical.byContradiction fun hn => by
      have hl : (n :: namesT t).length ≤ (namesT u).length := nodup_len (List.nodup_cons.mpr ⟨hn, ok.nd⟩) fun m hm => by
        rcases List.mem_cons.mp hm with e' | hm
        · rw [e']
          exact rowOf_mem e
        · exact hsub m hm
      rw [List.length_cons, len_names, len_names] at hl
      omega
    obtain ⟨r, er⟩ := rowOf_some.mpr hsup
    obtain ⟨s', es, ev⟩ := h2 n r er
    cases es.symm.trans e
    exact ⟨r, er, by rw [PySem.W.eqv_comm]; exact ev⟩
  exact Bool.eq_iff_iff.mpr ⟨key ok uk, key uk ok⟩
theorem eqTab_right (ok : TabOk t) (uk : TabOk u) {u' : Tab} (uk' : TabOk u') (h : EqR2 u u') : eqTab t u' = eqTab t u := by
  refine Bool.eq_iff_iff.mpr ?_
  rw [eqTab_iff ok, eqTab_iff ok, h.len uk uk']
  refine and_congr_right fun _ => ?_
  simp only [h _]
theorem eqTab_self (ok : TabOk t) (t5 : Tab5 t) : eqTab t t = true := (eqTab_iff ok).mpr ⟨rfl, fun n r e => ⟨r, e, eqv_lay (row_gd ok t5 e)⟩⟩
theorem sh_t5 (ok : TabOk t) (t5 : Tab5 t) : ShT t := tabP_sh ok t5
end
theorem zz_last : ∀ n ∈ names5, ltCps ("zz" : Str).cps.toList n.cps.toList = false := by decide +kernel
theorem zz_no : ("zz" : Str) ∉ names5 := by decide +kernel
def rowZ : BRow := ⟨.tuple [.int 1, .int 0], .tuple [], [], false⟩
theorem rowZ_gd : Gd 64 rowZ.dat := gd_tup (n := 63) (gds_cons (gd_tup (n := 62) (gds_cons gd_int (gds_cons gd_int gds_nil)) (by simp)) (gds_cons (gd_tup (n := 62) gds_nil (by simp)) (gds_cons (gd_tup (n := 62) gds_nil (by simp [rowZ])) (gds_cons gd_bool gds_nil)))) (by simp)
theorem sh_put {t : Tab} (h : ShT t) (hz : ("zz" : Str) ∉ namesT t) : ShT (putT t "zz" rowZ) := by
  intro p hp
  unfold putT at hp
  rw [any_name, if_neg (by simpa using hz)] at hp
  unfold tabP at hp
  rw [List.map_append] at hp
  rcases List.mem_append.mp hp with hp | hp
  · exact h p hp
  · cases List.mem_singleton.mp hp
    exact rowZ_gd.sh
theorem srt_zz {t : Tab} {ys : List Str} {r : BRow} (t5 : Tab5 t) (y : SrtT t ys) : SrtT (putT t "zz" r) (ys ++ [("zz" : Str)]) := by
  have hz : ("zz" : Str) ∉ namesT t := fun h => zz_no (t5.nm _ h)
  refine ⟨?_, sortedS_of_pw ?_⟩
  · rw [names_put, if_neg hz]
    exact y.perm.append_right _
  · rw [List.pairwise_append]
    refine ⟨sorted_pw y.srt, List.pairwise_singleton _ _, fun a ha b hb => ?_⟩
    cases List.mem_singleton.mp hb
    exact leS_of (zz_last a (t5.nm a (y.mem.mp ha)))
theorem zz_unlike {t u : Tab} {r : BRow} (ok : TabOk t) (uk : TabOk (putT u "zz" r)) (t5 : Tab5 t) : eqTab t (putT u "zz" r) = false := by
  cases e : eqTab t (putT u "zz" r) with
  | false => rfl
  | true =>
    rw [eqTab_comm ok uk] at e
    obtain ⟨s, es, _⟩ := ((eqTab_iff uk).mp e).2 "zz" r (by rw [rowOf_put, if_pos rfl])
    exact absurd (t5.nm _ (rowOf_mem es)) zz_no
theorem Pst.imp {K : PySem.W.Frag} {N N' : Addr → Prop} {H : Hp} {ds : List Addr} {ts : List Tab} (key : ∀ {d : Addr} {t : Tab}, DicAt K N H d t → DicAt K N' H d t) (h : Pst K N H ds ts) : Pst K N' H ds ts := by
  induction h with
  | nil => exact .nil
  | cons hd ok _ ih => exact .cons (key hd) ok ih
theorem BrdAt.newN {K : PySem.W.Frag} {N N' : Addr → Prop} {H : Hp} {b L : Addr} {t : Tab} {past : List Tab} (h : BrdAt K N H b L t past) (e : ∀ x, N' x → N x ∨ H x = none) : BrdAt K N' H b L t past := by
  obtain ⟨dx, d, ds, h1, h2, h3, h4⟩ := h.ex
  have key : ∀ {d : Addr} {t : Tab}, DicAt K N H d t → DicAt K N' H d t := fun hd => by
    obtain ⟨kvs, e1, e2⟩ := hd.ex
    refine ⟨fun z => (e _ z).elim hd.nn fun e => ?_, kvs, e1, e2⟩
    rw [e] at e1
    cases e1
  exact ⟨h.ok, dx, d, ds, h1, key h2, h3, h4.imp key⟩
theorem ButT.nwT {T : List (Addr × Str)} {a p : Addr} {H H1 : Hp} (b : ButT T a H H1) (h : H1 p = none) : NwT H p := fun u e => Classical.byContradiction fun z => by
  have hp : p ≠ a := fun e2 => by
    obtain ⟨x, y, hd⟩ := b.d1
    rw [e2, hd] at h
    cases h
  rw [b.kp p u e hp fun ps e3 => z ⟨ps, e3⟩] at h
  cases h
section
variable {K : PySem.W.Frag} {N : Addr → Prop} {H : Hp} {b L d x : Addr} {t : Tab} {past : List Tab}
theorem BrdAt.nd (h : BrdAt K N H b L t past) (hd : Dice H d) : d ≠ b ∧ d ≠ L := by
  obtain ⟨x, y, hd⟩ := hd
  obtain ⟨dx, d', ds, hb, _, hL, _⟩ := h.ex
  refine ⟨ne_of hd hb (by intro z; cases z), ne_of hd hL (fun z => ?_)⟩
  injection z with z
  cases ds with
  | nil => cases z
  | cons e es => cases z
theorem BrdAt.nk {kvs : List (Key × V)} (h : BrdAt K N H b L t past) (hx : H x = some (.dK kvs)) : x ≠ b ∧ x ≠ L := by
  obtain ⟨dx, d', ds, hb, _, hL, _⟩ := h.ex
  exact ⟨ne_of hx hb (by intro z; cases z), ne_of hx hL (by intro z; cases z)⟩
theorem BrdAt.ntA (h : BrdAt K N H b L t past) : NtA (fun y => y = b ∨ y = L) H := fun x o hx ho => by
  obtain ⟨dx, d', ds, hb, _, hL, _⟩ := h.ex
  rcases hx with e | e
  · rw [e, hb] at ho
    cases ho
    exact trivial
  · rw [e, hL] at ho
    cases ho
    exact trivial
theorem BrdAt.xx {b2 L2 : Addr} {N2 : Addr → Prop} {t2 : Tab} {past2 : List Tab} (h : BrdAt K N H b L t past) (h2 : BrdAt K N2 H b2 L2 t2 past2) : b ≠ L2 ∧ L ≠ b2 := by
  obtain ⟨_, _, _, hb, _, hL, _⟩ := h.ex
  obtain ⟨_, _, _, hb2, _, hL2, _⟩ := h2.ex
  exact ⟨ne_of hb hL2 (by intro z; cases z), ne_of hL hb2 (by intro z; cases z)⟩
end
/-- two boards, the one's table, the other's table -/
structure Two (K : PySem.W.Frag) (T : List (Addr × Str)) (d : Addr) (H0 H : Hp) (b L b2 L2 Tb Ow : Addr) (t : Tab) (past : List Tab) (t2 : Tab) (past2 : List Tab) (o : Tab) : Prop where
  bt : ButT T d H0 H
  tb : LamX.Tabs T H
  A : BrdAt K (fun x => x = Tb ∨ x = Ow) H b L t past
  A2 : BrdAt K (fun x => x = Tb ∨ x = Ow) H b2 L2 t2 past2
  X : TabX K H Tb t
  X2 : TabX K H Ow o
  uk : TabOk t
  t5 : Tab5 t
  ok : TabOk o
  o5 : Tab5 o
  nb : NwT H0 b
  nL : NwT H0 L
  nb2 : NwT H0 b2
  nL2 : NwT H0 L2
  nT : NwT H0 Tb
  nO : NwT H0 Ow
  bb : b ≠ b2
  LL : L ≠ L2
section
variable {K : PySem.W.Frag} {T : List (Addr × Str)} {d : Addr} {H0 H H1 : Hp} {b L b2 L2 Tb Ow p : Addr} {t t2 t2' o o' : Tab} {past past2 past2' : List Tab}
theorem Two.same (h : Two K T d H0 H b L b2 L2 Tb Ow t past t2 past2 o) (s : Same H H1) : Two K T d H0 H1 b L b2 L2 Tb Ow t past t2 past2 o := ⟨h.bt.same s, ext_tabs s h.tb, h.A.s s, h.A2.s s, h.X.s s, h.X2.s s, h.uk, h.t5, h.ok, h.o5, h.nb, h.nL, h.nb2, h.nL2, h.nT, h.nO, h.bb, h.LL⟩
theorem Two.but (h : Two K T d H0 H b L b2 L2 Tb Ow t past t2 past2 o) (c : But d H H1) : Two K T d H0 H1 b L b2 L2 Tb Ow t past t2 past2 o := by
  have hc := But.toT (T := T) c
  have n1 := h.A.nd c.d0
  have n2 := h.A2.nd c.d0
  have nt : NtA (fun y => y = d) H := fun x o hx ho => by
    obtain ⟨x', y', hd⟩ := c.d0
    rw [show x = d from hx, hd] at ho
    cases ho
    exact trivial
  have nk : ∀ (P : Addr → Prop) x kvs, x = d → H x = some (.dK kvs) → P x := fun P x kvs hx hk => by
    obtain ⟨x', y', hd⟩ := c.d0
    rw [show x = d from hx, hd] at hk
    cases hk
  exact ⟨h.bt.trans hc, hc.tb h.tb, h.A.kpb (kpb_but c (A := fun y => y = d) rfl) nt n1.1.symm n1.2.symm (nk _), h.A2.kpb (kpb_but c (A := fun y => y = d) rfl) nt n2.1.symm n2.2.symm (nk _), h.X.but h.uk c, h.X2.but h.ok c, h.uk, h.t5, h.ok, h.o5, h.nb, h.nL, h.nb2, h.nL2, h.nT, h.nO, h.bb, h.LL⟩
/-- a deed of the other -/
theorem Two.deed (h : Two K T d H0 H b L b2 L2 Tb Ow t past t2 past2 o) (k : KpB (fun y => y = b2 ∨ y = L2) H H1) (hB : BrdAt K (fun x => x = Tb ∨ x = Ow) H1 b2 L2 t2' past2') (tb : LamX.Tabs T H1) : Two K T d H0 H1 b L b2 L2 Tb Ow t past t2' past2' o := by
  have n2 := h.A2.nd h.bt.d1
  obtain ⟨x1, x2⟩ := h.A.xx h.A2
  obtain ⟨k1, hk1, _⟩ := h.X
  obtain ⟨k2, hk2, _⟩ := h.X2
  have m1 := h.A2.nk hk1
  have m2 := h.A2.nk hk2
  exact ⟨h.bt.kpb' k (fun c hc => by rcases hc with e | e <;> rw [e]; exact h.nb2; exact h.nL2) (fun z => z.elim n2.1 n2.2) tb, tb, h.A.kpb k h.A2.ntA (fun z => z.elim h.bb x1) (fun z => z.elim x2 h.LL) (fun x kvs hx hk => absurd hx (by
    have := h.A2.nk hk
    rintro (e | e)
    · exact this.1 e
    · exact this.2 e)), hB, h.X.kpb h.uk k h.A2.ntA (fun z => z.elim m1.1 m1.2), h.X2.kpb h.ok k h.A2.ntA (fun z => z.elim m2.1 m2.2), h.uk, h.t5, h.ok, h.o5, h.nb, h.nL, h.nb2, h.nL2, h.nT, h.nO, h.bb, h.LL⟩
theorem Two.bd (h : Two K T d H0 H b L b2 L2 Tb Ow t past t2 past2 o) (k : Bd b2 L2 H H1) (hB : BrdAt K (fun x => x = Tb ∨ x = Ow) H1 b2 L2 t2' past2') : Two K T d H0 H1 b L b2 L2 Tb Ow t past t2' past2' o := by
  obtain ⟨dx, d', ds, hb, _, hL, _⟩ := h.A2.ex
  exact h.deed k.kpb hB (k.tabs hb hL h.tb)
/-- the other's table becomes another -/
theorem Two.due (h : Two K T d H0 H b L b2 L2 Tb Ow t past t2 past2 o) (c : Oth Ow H H1) (hX : TabX K H1 Ow o') (ok : TabOk o') (o5 : Tab5 o') (ne : Tb ≠ Ow) : Two K T d H0 H1 b L b2 L2 Tb Ow t past t2 past2 o' := by
  obtain ⟨k2, hk, _⟩ := h.X2
  have m1 := h.A.nk hk
  have m2 := h.A2.nk hk
  have nt : NtA (fun y => y = Ow) H := fun x o hx ho => by
    rw [show x = Ow from hx, hk] at ho
    cases ho
    exact trivial
  have tb : LamX.Tabs T H1 := fun y hy => by
    obtain ⟨ps, h1, h2, h3⟩ := h.tb y hy
    refine ⟨ps, c _ _ h1 (ne_of h1 hk (by intro z; cases z)), h2, fun pos cv hc => ?_⟩
    obtain ⟨c', e1, e2⟩ := h3 pos cv hc
    exact ⟨c', e1, c _ _ e2 (ne_of e2 hk (by intro z; unfold LamX.CodeO at z; cases z))⟩
  have nd : d ≠ Ow := by
    obtain ⟨x, y, hd⟩ := h.bt.d1
    exact ne_of hd hk (by intro z; cases z)
  exact ⟨h.bt.kpb' c.kpb (fun y hy => by rw [show y = Ow from hy]; exact h.nO) nd tb, tb, h.A.kpb c.kpb nt m1.1.symm m1.2.symm (fun x _ hx _ => .inr hx), h.A2.kpb c.kpb nt m2.1.symm m2.2.symm (fun x _ hx _ => .inr hx), h.X.kpb h.uk c.kpb nt ne, hX, h.uk, h.t5, ok, o5, h.nb, h.nL, h.nb2, h.nL2, h.nT, h.nO, h.bb, h.LL⟩
/-- a table of the other's own -/
theorem Two.own (h : Two K T d H0 H b L b2 L2 Tb Tb t past t2 past2 o) (s : Same H H1) (np : H p = none) (hX : TabX K H1 p t) : Two K T d H0 H1 b L b2 L2 Tb p t past t2 past2 t := by
  have e : ∀ x, (x = Tb ∨ x = p) → ((x = Tb ∨ x = Tb) ∨ H x = none) := fun x hx => hx.elim (fun z => .inl (.inl z)) fun z => .inr (by rw [z]; exact np)
  exact ⟨h.bt.same s, ext_tabs s h.tb, (h.A.newN e).s s, (h.A2.newN e).s s, h.X.s s, hX, h.uk, h.t5, h.uk, h.t5, h.nb, h.nL, h.nb2, h.nL2, h.nT, h.bt.nwT np, h.bb, h.LL⟩
theorem Two.st (h : Two K T d H0 H b L b2 L2 Tb Ow t past t2 past2 o) : StN (fun x => x = Tb ∨ x = Ow) H := fun x hx => by
  obtain ⟨k1, hk1, _⟩ := h.X
  obtain ⟨k2, hk2, _⟩ := h.X2
  rcases hx with e | e <;> rw [e]
  · exact ⟨_, hk1, fun ps z => by cases z⟩
  · exact ⟨_, hk2, fun ps z => by cases z⟩
theorem w_two {E : XK} {Q : VK} (h : Two K T d H0 H b L b2 L2 Tb Ow t past t2 past2 o) (s2 : ShT t2) (q : Q (.bl (eqTab t t2)) H) : rEqO (He.ga K "Board") (spBrdEq K) E (.ref b) (.ref b2) H Q := by
  obtain ⟨dx, _, _, hb, _⟩ := h.A.ex
  obtain ⟨dx2, _, _, hb2, _⟩ := h.A2.ex
  exact ⟨b, dx, _, rfl, hb, ⟨b2, rfl, .inl ⟨dx2, _, hb2⟩⟩, b, b2, rfl, .inl ⟨L, L2, _, _, t, t2, past, past2, h.A, h.A2, sh_t5 h.uk h.t5, s2, _, rfl, q⟩⟩
theorem w_twoNe {E : XK} {Q : VK} (h : Two K T d H0 H b L b2 L2 Tb Ow t past t2 past2 o) (s2 : ShT t2) (q : Q (.bl (!eqTab t t2)) H) : rNeO (He.ga K "Board") (spBrdEq K) E (.ref b) (.ref b2) H Q := by
  obtain ⟨dx, _, _, hb, _⟩ := h.A.ex
  obtain ⟨dx2, _, _, hb2, _⟩ := h.A2.ex
  exact ⟨b, b2, dx, _, dx2, _, rfl, rfl, hb, hb2, b, b2, rfl, .inl ⟨L, L2, _, _, t, t2, past, past2, h.A, h.A2, sh_t5 h.uk h.t5, s2, _, rfl, q⟩⟩
theorem w_twoD {E : XK} {Q : VK} (h : Two K T d H0 H b L b2 L2 Tb Ow t past t2 past2 o) (q : Q (.bl false) H) : rEqO (He.ga K "Board") (spBrdEq K) E (.ref b) (.ref Tb) H Q := by
  obtain ⟨dx, _, _, hb, _⟩ := h.A.ex
  obtain ⟨kvs, hk, _⟩ := h.X
  exact ⟨b, dx, _, rfl, hb, ⟨Tb, rfl, .inr ⟨kvs, hk⟩⟩, b, Tb, rfl, .inr ⟨L, _, t, past, kvs, h.A, hk, _, rfl, q⟩⟩
end
theorem nd_put {t : Tab} {z : Str} {r : BRow} (h : (namesT t).Nodup) : (namesT (putT t z r)).Nodup := by
  rw [names_put]
  split
  · exact h
  · rename_i hz
    rw [List.nodup_append]
    exact ⟨h, by simp, fun a ha b hb e => hz (by rw [← List.mem_singleton.mp hb, ← e]; exact ha)⟩
theorem EqR2.okT {t t' : Tab} (h : EqR2 t t') (ok : TabOk t') (nd : (namesT t).Nodup) : TabOk t := by
  refine ⟨nd, fun n hn => ok.nm n ((h.mem n).mpr hn), ?_, fun n r e => ?_, fun n r m e hm p => ok.acy n r m (by rw [h n]; exact e) hm (h.rch.mpr p)⟩
  · have := (perm_nd ok.nd nd h.mem).length_eq
    rw [len_names, len_names] at this
    rw [← this]
    exact ok.len
  · have := ok.row n r (by rw [h n]; exact e)
    exact ⟨this.deal, this.ok, this.rules, this.im, this.nd, this.srt, fun m hm => (h.mem m).mp (this.mem m hm)⟩
theorem due_nd {t : Tab} {x : BDeed} (ok : TabOk t) (t5 : Tab5 t) (hx : DeedOk t x) : (namesT (resT t (dueR t x))).Nodup := by
  cases x with
  | put z dl rs =>
    rw [due_put ok t5 hx]
    split
    · exact ok.nd
    · exact nd_put ok.nd
  | rule z rs =>
    cases e : rowOf t z with
    | none =>
      rw [(due_no (rs := rs) (ns := []) (x := true) e).1]
      exact ok.nd
    | some r =>
      rw [due_rule hx e]
      exact nd_put ok.nd
  | need z ns =>
    cases e : rowOf t z with
    | none =>
      rw [(due_no (rs := []) (ns := ns) (x := true) e).2.1]
      exact ok.nd
    | some r =>
      rw [due_need hx e]
      split
      · exact ok.nd
      · exact nd_put ok.nd
  | dark z b =>
    cases e : rowOf t z with
    | none =>
      rw [(due_no (rs := []) (ns := []) (x := b) e).2.2.1]
      exact ok.nd
    | some r =>
      rw [due_dark e]
      exact nd_put ok.nd
  | drop z =>
    show (namesT (resT t (dropR t (.str z)))).Nodup
    unfold dropR
    rw [swRow_str]
    cases rowOf t z with
    | none => exact ok.nd
    | some r =>
      simp only [Option.map_some]
      cases (RG.srtL t).find? (needIn t z) with
      | some o => exact ok.nd
      | none =>
        show (namesT (dropT t z)).Nodup
        rw [names_drop]
        exact ok.nd.sublist List.filter_sublist
theorem rot_perm (ys : List Str) : (ys.drop 1 ++ ys.take 1).Perm ys := List.perm_append_comm.trans (by rw [List.take_append_drop])
theorem Two.exT {K : PySem.W.Frag} {T : List (Addr × Str)} {d : Addr} {H0 H H1 : Hp} {b L b2 L2 Tb Ow : Addr} {t t2 o : Tab} {past past2 : List Tab} (h : Two K T d H0 H b L b2 L2 Tb Ow t past t2 past2 o) (e : ExT T H H1) : Two K T d H0 H1 b L b2 L2 Tb Ow t past t2 past2 o := by
  obtain ⟨kvs, hk, hr⟩ := h.X
  obtain ⟨kvo, hko, hro⟩ := h.X2
  exact ⟨h.bt.exT e, e.tb, h.A.eT e, h.A2.eT e, ⟨kvs, e.ex _ _ hk (fun ps z => by cases z), hr.tups (fun _ _ z => tup_eT e z) h.uk.imm⟩, ⟨kvo, e.ex _ _ hko (fun ps z => by cases z), hro.tups (fun _ _ z => tup_eT e z) h.ok.imm⟩, h.uk, h.t5, h.ok, h.o5, h.nb, h.nL, h.nb2, h.nL2, h.nT, h.nO, h.bb, h.LL⟩
section
variable {K : PySem.W.Frag} {H : Hp} {N N' : Addr → Prop} {b1 L1 b L : Addr} {t1 t : Tab} {p1 p : List Tab} {E : XK} {Q : VK}
theorem eq_rows (uk : TabOk t1) (ok : TabOk t) (t5 : Tab5 t) (h : EqR2 t t1) : eqTab t1 t = true := by rw [eqTab_right uk uk ok h.symm, eqTab_self uk (h.t5 t5)]
theorem w_neR (hA : BrdAt K N H b1 L1 t1 p1) (hB : BrdAt K N' H b L t p) (t5 : Tab5 t) (h : EqR2 t t1) (q : Q (.bl false) H) : rNeO (He.ga K "Board") (spBrdEq K) E (.ref b1) (.ref b) H Q := by
  obtain ⟨dx, _, _, hb, _⟩ := hA.ex
  obtain ⟨dx2, _, _, hb2, _⟩ := hB.ex
  refine ⟨b1, b, dx, _, dx2, _, rfl, rfl, hb, hb2, b1, b, rfl, .inl ⟨L1, L, _, _, t1, t, p1, p, hA, hB, sh_t5 hA.ok (h.t5 t5), sh_t5 hB.ok t5, _, rfl, ?_⟩⟩
  rw [eq_rows hA.ok hB.ok t5 h]
  exact q
theorem w_eqR (hA : BrdAt K N H b1 L1 t1 p1) (hB : BrdAt K N' H b L t p) (t5 : Tab5 t) (h : EqR2 t t1) (q : Q (.bl true) H) : rEqO (He.ga K "Board") (spBrdEq K) E (.ref b1) (.ref b) H Q := by
  obtain ⟨dx, _, _, hb, _⟩ := hA.ex
  obtain ⟨dx2, _, _, hb2, _⟩ := hB.ex
  refine ⟨b1, dx, _, rfl, hb, ⟨b, rfl, .inl ⟨dx2, _, hb2⟩⟩, b1, b, rfl, .inl ⟨L1, L, _, _, t1, t, p1, p, hA, hB, sh_t5 hA.ok (h.t5 t5), sh_t5 hB.ok t5, _, rfl, ?_⟩⟩
  rw [eq_rows hA.ok hB.ok t5 h]
  exact q
end
theorem gd_refD' {c : Str} (h : PyData.canLay0 (.str c) = true) : Gd 64 (refD c) := gd_tup (n := 63) (gds_cons (gd_str (by decide +kernel)) (gds_cons (gd_str h) gds_nil)) (by simp)
theorem ok_law (T : Tx K mg) (B : TLs base mg K tfS) : Ok P w K mg base 26 "law" ["script"] (spLawT K tfS) := by
  refine Ok.mkL T.G_law T.F_law (fun _ _ _ _ _ _ us hl => match us, hl with | [_], _ => rfl) sc_law (fun vs H Q E h => ?_) (fun A outer s H vs Q E hr h => ?_)
  · obtain ⟨a, ns, rfl, hS, hl, hT, q⟩ := h
    rfl
  · obtain ⟨a, ns, rfl, hS, hl, hT, q⟩ := h
    refine ⟨(tSeq (tFor (iList K (tCall (spRounds K) [] E (tCons (tVar 0) (tCons (tC (.int 3)) tNil)))) (gName 1) (tSeq (tAsg (tCall (spLBoard K tfS) [] E (tCons (tVar 1) (tCons (tC (.int 20)) tNil))) (gTup K 3 (gCons (gName 2) (gCons (gName 3) (gCons (gName 4) gNil)))))
      (tSeq (tPar 6 7 (tCons (tCall (spSaved K) [] E (tCons (tVar 2) tNil)) (tCons (tLc (iRng1 (tCons (tC (.int 4)) tNil)) (gName 5) tYes (tCall (spUser K) [] E0 (tCons (tVar 1) tNil)) [5]) tNil)))
      (tSeq (tAsg (tCall (spWoken K) [] E (tCons (tVar 6) tNil)) (gName 8))
      (tSeq (tIfS (tOr (tNot (tB (tVar 4))) (tOr (tNot (tB (tCB (rIsi K) (tCons (tVar 6) (tCons (tC (.ty "str")) tNil))))) (tOr (tNot (tTest (tOp (rEqO (He.ga K "Board") (spBrdEq K) E) (tVar 8) (tVar 2)))) (tNot (tB (tCall (spLLike2 K) [] E (tCons (tVar 8) (tCons (tVar 3) (tCons (tVar 7) tNil))))))))) (tRet (tC (.bl false))) tNext)
      (tSeq (tIfS (tOr (tTest (tOp (rNeD K) (LamX.tLam (tabL K tfS) (toldT K) fun E => (tMeth (He.ga K "Board") "take_back" (spBrdBack K) [] E (tVar 8) tNil)) (tTup (tCons (tC (.str "refused")) (tCons (tC (.str "Nothing")) tNil))))) (tTest (tOp (rNeO (He.ga K "Board") (spBrdEq K) E) (tCall (spWoken K) [] E (tCons (tCall (spSaved K) [] E (tCons (tVar 8) tNil)) tNil)) (tVar 2)))) (tRet (tC (.bl false))) tNext)
      (tSeq (tPar 9 10 (tCons (tCB rDictD (tCons (tVar 3) tNil)) (tCons (tCall (spLDeed K) [] E (tCons (tVar 1) (tCons (tVar 3) tNil))) tNil)))
      (tSeq (tIfS (tOr (tTest (tOp (rNeD K) (tCall (spLDo K tfS) [] E (tCons (tVar 8) (tCons (tVar 10) tNil))) (tCall (spLDue K) [] E (tCons (tVar 9) (tCons (tVar 10) tNil))))) (tNot (tB (tCall (spLLike2 K) [] E (tCons (tVar 8) (tCons (tVar 9) (tCons (tVar 7) tNil))))))) (tRet (tC (.bl false))) tNext)
      (tSeq (tIfS (tOr (tNot (tB (tCall (spLLike2 K) [] E (tCons (tVar 2) (tCons (tVar 3) (tCons (tVar 7) tNil)))))) (tOr (tTest (tOp (rNeO (He.ga K "Board") (spBrdEq K) E) (tCall (spWoken K) [] E (tCons (tCall (spSaved K) [] E (tCons (tVar 8) tNil)) tNil)) (tVar 8))) (tTest (tOp rNe (tCall (spSaved K) [] E (tCons (tVar 2) tNil)) (tVar 6))))) (tRet (tC (.bl false))) tNext)
      (tIfS (tOr (tTest (tOp (rNeO (He.ga K "Board") (spBrdEq K) E) (tCall (spWoken K) [] E (tCons (tCall (spSaved K) [] E (tCons (tMake (He.ga K "Board") (spBrdInit K) [] E tNil) tNil)) tNil)) (tMake (He.ga K "Board") (spBrdInit K) [] E tNil))) (tTest (tOp (rNeO (He.ga K "Board") (spBrdEq K) E) (tCall (spWoken K) [] E (tCons (tVar 6) tNil)) (tVar 2)))) (tRet (tC (.bl false))) tNext))))))))))
      (tRet (tC (.bl true)))), (pss_cons (ps_for (passes_of rfl) rfl (pi_list (pe_f (ok__law_rounds T) hr (pnx (L2N.takes_of rfl rfl rfl rfl)) (pa_cons (pv 0) (pa_cons pe_int pa_nil)))) (pg_name (i := 1) sc_law.nd rfl (by first | exact Or.inl rfl | exact Or.inr rfl)) (pss_cons (ps_asg (pe_f (ok__law_board T B) hr (pnx (L2N.takes_of rfl rfl rfl rfl)) (pa_cons (pv 1) (pa_cons pe_int pa_nil))) (pg_tup (by rfl) (pgs_cons (pg_name (i := 2) sc_law.nd rfl (by first | exact Or.inl rfl | exact Or.inr rfl)) (pgs_cons (pg_name (i := 3) sc_law.nd rfl (by first | exact Or.inl rfl | exact Or.inr rfl)) (pgs_cons (pg_name (i := 4) sc_law.nd rfl (by first | exact Or.inl rfl | exact Or.inr rfl)) pgs_nil)))))
      (pss_cons (ps_par (by rfl) sc_law.nd rfl rfl (by decide) rfl rfl (pa_cons (pe_f (ok_saved T) hr (pnx (L2N.takes_of rfl rfl rfl rfl)) (pa_cons (pv 2) pa_nil)) (pa_cons (pe_lc (own := [("turn", 5)]) rfl sc_law.nd (pi_range1 (by rfl) T.Z_range (pa_cons pe_int pa_nil)) (blkOk_by (own := [("turn", 5)]) (N := ["script", "dice", "board", "table", "good", "turn", "text", "users", "other", "own", "deed"]) (sc := defScope s_law) (by decide +kernel)) (fun _ _ _ _ _ => (pg_name (i := 5) sc_law.nd rfl (by first | exact Or.inl rfl | exact Or.inr rfl))) (fun _ _ _ _ _ => pts_nil) (fun _ _ _ _ _ => (pe_f (ok__law_user T) hr pn0 (pa_cons (pv 1) pa_nil)))) pa_nil)) (by rfl))
      (pss_cons (ps_set (i := 8) sc_law.nd rfl (by first | exact Or.inl rfl | exact Or.inr rfl) (pe_f (ok_woken T) hr (pnx (L2N.takes_of rfl rfl rfl rfl)) (pa_cons (pv 6) pa_nil)))
      (pss_cons (ps_if (PW.pt (pw_or (pt_not (pt_val (pv 4))) (pw_or (pt_not (pt_val (pe_callB call_isi (by rfl) T.Z_isinstance (by decide +kernel) (pa_cons (pv 6) (pa_cons (pe_bltn (v := .ty "str") (by rfl) T.Z_str (by decide +kernel) rfl) pa_nil))))) (pw_or (pt_not (pt_cmpR (op_eqO (ok_Board___eq__ T) hr (pnx (L2N.takes_of rfl rfl rfl rfl))) (pv 8) (pv 2) (nomark _))) (pw_or1 (pt_not (pt_val (pe_f (ok__law_like T) hr (pnx (L2N.takes_of rfl rfl rfl rfl)) (pa_cons (pv 8) (pa_cons (pv 3) (pa_cons (pv 7) pa_nil))))))))))) (pss_one (ps_ret pe_bl)) pss_nil)
      (pss_cons (ps_if (PW.pt (pw_or (pt_cmpR (op_neD hr.units) (pe_told (x := "law") T B (by simp) rfl rfl hr (LamX.lamS_by (sc := defScope s_law) (by decide +kernel)) rfl (fun _ _ _ _ _ => rfl) (fun _ _ _ _ _ _ _ hr => (pe_m0 (ok_Board_take_back T) T.C_Board hr (pnx (L2N.takes_of rfl rfl rfl rfl)) (pv 8)))) (pe_tup (pa_cons pe_str (pa_cons pe_str pa_nil))) (nomark _)) (pw_or1 (pt_cmpR (op_neO (ok_Board___eq__ T) T.NQ hr (pnx (L2N.takes_of rfl rfl rfl rfl))) (pe_f (ok_woken T) hr (pnx (L2N.takes_of rfl rfl rfl rfl)) (pa_cons (pe_f (ok_saved T) hr (pnx (L2N.takes_of rfl rfl rfl rfl)) (pa_cons (pv 8) pa_nil)) pa_nil)) (pv 2) (nomark _))))) (pss_one (ps_ret pe_bl)) pss_nil)
      (pss_cons (ps_par (by rfl) sc_law.nd rfl rfl (by decide) rfl rfl (pa_cons (pe_callTy call_dictD (by rfl) T.Z_dict (by decide +kernel) (pa_cons (pv 3) pa_nil)) (pa_cons (pe_f (ok__law_deed T) hr (pnx (L2N.takes_of rfl rfl rfl rfl)) (pa_cons (pv 1) (pa_cons (pv 3) pa_nil))) pa_nil)) (by rfl))
      (pss_cons (ps_if (PW.pt (pw_or (pt_cmpR (op_neD hr.units) (pe_f (ok__law_do T B) hr (pnx (L2N.takes_of rfl rfl rfl rfl)) (pa_cons (pv 8) (pa_cons (pv 10) pa_nil))) (pe_f (ok__law_due T) hr (pnx (L2N.takes_of rfl rfl rfl rfl)) (pa_cons (pv 9) (pa_cons (pv 10) pa_nil))) (nomark _)) (pw_or1 (pt_not (pt_val (pe_f (ok__law_like T) hr (pnx (L2N.takes_of rfl rfl rfl rfl)) (pa_cons (pv 8) (pa_cons (pv 9) (pa_cons (pv 7) pa_nil))))))))) (pss_one (ps_ret pe_bl)) pss_nil)
      (pss_cons (ps_if (PW.pt (pw_or (pt_not (pt_val (pe_f (ok__law_like T) hr (pnx (L2N.takes_of rfl rfl rfl rfl)) (pa_cons (pv 2) (pa_cons (pv 3) (pa_cons (pv 7) pa_nil)))))) (pw_or (pt_cmpR (op_neO (ok_Board___eq__ T) T.NQ hr (pnx (L2N.takes_of rfl rfl rfl rfl))) (pe_f (ok_woken T) hr (pnx (L2N.takes_of rfl rfl rfl rfl)) (pa_cons (pe_f (ok_saved T) hr (pnx (L2N.takes_of rfl rfl rfl rfl)) (pa_cons (pv 8) pa_nil)) pa_nil)) (pv 8) (nomark _)) (pw_or1 (pt_cmpR op_ne (pe_f (ok_saved T) hr (pnx (L2N.takes_of rfl rfl rfl rfl)) (pa_cons (pv 2) pa_nil)) (pv 6) (nomark _)))))) (pss_one (ps_ret pe_bl)) pss_nil)
      (pss_one (ps_if (PW.pt (pw_or (pt_cmpR (op_neO (ok_Board___eq__ T) T.NQ hr (pnx (L2N.takes_of rfl rfl rfl rfl))) (pe_f (ok_woken T) hr (pnx (L2N.takes_of rfl rfl rfl rfl)) (pa_cons (pe_f (ok_saved T) hr (pnx (L2N.takes_of rfl rfl rfl rfl)) (pa_cons (pe_new0 (ok_Board___init__ T) T.K_Board T.G_Board hr (pnx (L2N.takes_of rfl rfl rfl rfl))) pa_nil)) pa_nil)) (pe_new0 (ok_Board___init__ T) T.K_Board T.G_Board hr (pnx (L2N.takes_of rfl rfl rfl rfl))) (nomark _)) (pw_or1 (pt_cmpR (op_neO (ok_Board___eq__ T) T.NQ hr (pnx (L2N.takes_of rfl rfl rfl rfl))) (pe_f (ok_woken T) hr (pnx (L2N.takes_of rfl rfl rfl rfl)) (pa_cons (pv 6) pa_nil)) (pv 2) (nomark _))))) (pss_one (ps_ret pe_bl)) pss_nil)))))))))))
      (pss_one (ps_ret pe_bl))), ?_⟩
    walk_at "0"
    walk_at "g"
    refine ⟨_, _, _, rfl, hS, by omega, by decide, by decide, fun R ds H1 s1 hR hds nR => ?_⟩
    walk_at "g"
    refine ⟨⟨_, lstOf hR⟩, ?_⟩
    refine rounds_goT (T := tabL K tfS) (n := 10) rfl (ext_tabs s1 hT) hR (fun d h => (hds d h).2) (fun _ _ => q _) ?_
    intro w H2 d N hw hT2 hd hN
    match w, hw with
    | [w1, w2, w3, w4, w5, w6, w7, w8, w9, w10], _ =>
    have gR := gd_refD' (wname_lay "Nothing" (by decide))
    walk_at "c"
    walk_at "g"
    refine ⟨d, 20, rfl, hd, by decide, by decide, hT2, fun p b L Tb t past H3 hS3 hp hne hpl => ?_⟩
    have ok := hS3.uk
    have t5 := hS3.t5
    refine w_gtup (tupOf hp) rfl ?_
    walk_at "g"
    refine ⟨b, L, _, t, past, rfl, hS3.A, fun ys H4 y s4 => ?_⟩
    have hzl := savS_len ok y
    have hS4 := hS3.same s4
    walk_at "g"
    refine ⟨by decide, by decide, ?_⟩
    refine lc_users (d := d) hS4.bt.d1 (by decide) (fun _ => rfl) (fun _ => rfl) fun U us vus H5 b5 nU nUd hU hus hul hall => ?_
    have hS5 := hS4.but b5
    have him : immAll us = true := immAll_mem fun u hu => user_imm (hall u hu)
    walk_at "g"
    refine ⟨.str _, .str (savS t ys), rfl, .str _, hzl, .inr ⟨t, ys, rfl, ok, y, fun b2 L2 t2 H6 s6 nb2 nL2 hA2 hnm hE => ?_⟩⟩
    have hE : EqR2 t t2 := hE
    have hS6 := hS5.same s6
    have ok2 := hA2.ok
    have hTw : Two K (tabL K tfS) d H2 H6 b L b2 L2 Tb Tb t past t2 [] t := by
      obtain ⟨_, _, _, hb, _, hL, _⟩ := hS5.A.ex
      obtain ⟨kvs, hk, _⟩ := hS5.X
      refine ⟨hS6.bt, hS6.tb, hS6.A.newN fun x hx => .inl (hx.elim id id), hA2.newN fun x hx => .inl (by rw [hx.elim id id]; exact ⟨_, hk⟩), hS6.X, hS6.X, hS6.uk, hS6.t5, hS6.uk, hS6.t5, hS6.nb, hS6.nL, hS5.bt.nwT nb2, hS5.bt.nwT nL2, hS6.nT, hS6.nT, fun z => ?_, fun z => ?_⟩
      · rw [z, nb2] at hb
        cases hb
      · rw [z, nL2] at hL
        cases hL
    have yU : SrtT t2 ys := ⟨by rw [hnm], y.srt⟩
    have hU6 := s6 _ _ hU
    have hus6 := dps_s s6 hus
    walk_at "g"
    refine isi_str (d := .str (savS t ys)) (.str _) ?_
    walk_at "g"
    refine w_eqR hTw.A2 hTw.A t5 hE ?_
    walk_at "g"
    refine ⟨b2, L2, _, t2, [], Tb, t, U, us, vus, rfl, hTw.A2, .inl rfl, hTw.X, hTw.uk, hTw.t5, hE, hU6, hus6, hall, fun H7 s7 => ?_⟩
    have hT7 := hTw.same s7
    walk_at "g"
    refine w_lam hT7.tb fun Hc ec => ?_
    have hTc := hT7.exT ec
    obtain ⟨dxc, _, _, hbc, _⟩ := hTc.A2.ex
    walk_at "g"
    refine w_meth (w_var rfl ⟨b2, dxc, _, rfl, hbc, rfl, ?_⟩)
    walk_at "g"
    refine ⟨b2, L2, _, t2, [], rfl, hTc.A2, fun _ H8 s8 => told_no (by decide) (by decide) fun t1 H9 s9 nt1 ht1 => ?_, fun p0 t0 e => by simp at e⟩
    walk_at "g"
    refine w_newT (by simp) fun p8 H10 s10 np8 hp8 => ?_
    refine w_neD (d := refD "Nothing") (e := refD "Nothing") (dp_s s10 (refD_dp ht1)) (.tup (tupOf hp8) (.cons (.str _) (.cons (.str _) .nil))) gR.sh gR.sh ?_
    rw [eqv_refD]
    have e10 := ((ec.same s8).same s9).same s10
    have hT10 := hT7.exT e10
    have hU10 := lst_eT e10 (s7 _ _ hU6)
    have hus10 := dps_eT e10 (dps_s s7 hus6)
    walk_at "g"
    refine ⟨b2, L2, _, t2, [], rfl, hT10.A2, fun ys2 H11 y2 s11 => ?_⟩
    cases y2.uniq ok2 yU
    rw [savS_same hE]
    walk_at "g"
    refine ⟨.str _, .str (savS t ys), rfl, .str _, hzl, .inr ⟨t, ys, rfl, ok, y, fun b3 L3 t3 H12 s12 nb3 nL3 hA3 hnm3 hE3 => ?_⟩⟩
    have s1112 := s11.trans s12
    have hT12 := hT10.same s1112
    walk_at "g"
    refine w_neR hA3 hT12.A t5 hE3 ?_
    walk_at "g"
    obtain ⟨kv, hkv, hrv⟩ := hT12.X
    refine w_dictD (.inl hkv) fun Ow H13 s13 nO hO => ?_
    have hT13 := hT12.own s13 nO ⟨kv, hO, hrv.s s13⟩
    have hTO : Tb ≠ Ow := fun z => by
      rw [z, nO] at hkv
      cases hkv
    have hU13 := s13 _ _ (s1112 _ _ hU10)
    have hus13 := dps_s s13 (dps_s s1112 hus10)
    have hnO : U ≠ Ow := fun z => by
      rw [z] at hU10
      rw [s1112 _ _ hU10] at nO
      cases nO
    have hnb : U ≠ b2 ∧ U ≠ L2 := by
      constructor
      · intro z
        rw [z, nb2] at hU
        cases hU
      · intro z
        rw [z, nL2] at hU
        cases hU
    walk_at "g"
    refine ⟨d, Tb, t, rfl, hT13.bt.d1, hT13.X, hT13.uk, fun v x H15 b15 hv hx => ?_⟩
    have hT15 := hT13.but b15
    have hU15 : H15 U = some (.lst vus) := b15.kp _ _ hU13 nUd
    have hus15 := (But.toT (T := tabL K tfS) b15).dps him hus13
    have hx2 := hE.deed hx
    obtain ⟨ed, eE⟩ := hE.due hT15.uk ok2 hT15.t5 hx
    walk_at "g"
    refine ⟨b2, L2, _, t2, [], v, x, rfl, hT15.A2, hv, hx2, hT15.st, by simp, hT15.tb, fun v1 H16 k16 hB16 tb16 hv16 => ?_⟩
    have hT16 := hT15.deed k16 hB16 tb16
    have hv' := dp_tups (kpb_tups (K := K) k16 hT15.A2.ntA) (deed_imm hx) hv
    have hU16 := k16 _ _ hU15 (fun z => z.elim hnb.1 hnb.2) (fun ps z => by cases z)
    have hus16 := dps_tups (kpb_tups (K := K) k16 hT15.A2.ntA) him hus15
    walk_at "g"
    refine ⟨Ow, v, t, x, rfl, hT16.X2, hT16.uk, hT16.t5, hv', hx, fun v2 H17 o17 hX17 hv17 => ?_⟩
    have okd : TabOk (resT t (dueR t x)) := eE.okT hB16.ok (due_nd hT16.uk hT16.t5 hx)
    have t5d := due_t5 hT16.uk hT16.t5 hx
    have hT17 := hT16.due o17 hX17 okd t5d hTO
    have g := due_gd (x := x) hT16.uk
    have ntO : NtA (fun y => y = Ow) H16 := fun x u hx hu => by
      obtain ⟨k, e, _⟩ := hT16.X2
      rw [show x = Ow from hx, e] at hu
      cases hu
      exact trivial
    rw [ed] at hv16
    have hv1' := dp_tups (kpb_tups (K := K) o17.kpb ntO) (resD_imm _) hv16
    have hU17 := o17 _ _ hU16 hnO
    have hus17 := dps_tups (kpb_tups (K := K) o17.kpb ntO) him hus16
    refine w_neD hv1' hv17 g.sh g.sh ?_
    rw [eqv_lay g]
    have okB := hB16.ok
    have t5B := eE.t5 t5d
    generalize resT t (dueR t x) = o at hT17 eE okd t5d hX17
    generalize resP t2 [] (dueR t2 x) = past3 at hT17
    generalize resT t2 (dueR t2 x) = t3' at hT17 eE okB t5B
    walk_at "g"
    refine ⟨b2, L2, _, t3', past3, Ow, o, U, us, vus, rfl, hT17.A2, .inr rfl, hT17.X2, okd, t5d, eE, hU17, hus17, hall, fun H18 s18 => ?_⟩
    have hT18 := hT17.same s18
    walk_at "g"
    refine ⟨b, L, _, t, past, Tb, t, U, us, vus, rfl, hT18.A, .inl rfl, hT18.X, hT18.uk, hT18.t5, EqR2.refl t, s18 _ _ hU17, dps_s s18 hus17, hall, fun H19 s19 => ?_⟩
    have hT19 := hT18.same s19
    walk_at "g"
    refine ⟨b2, L2, _, t3', past3, rfl, hT19.A2, fun ysB H20 yB s20 => ?_⟩
    walk_at "g"
    refine ⟨.str _, .str (savS t3' ysB), rfl, .str _, savS_len okB yB, .inr ⟨t3', ysB, rfl, okB, yB, fun b4 L4 t4 H21 s21 nb4 nL4 hA4 hnm4 hE4 => ?_⟩⟩
    have hT21 := (hT19.same s20).same s21
    walk_at "g"
    refine w_neR hA4 hT21.A2 t5B hE4 ?_
    walk_at "g"
    refine ⟨b, L, _, t, past, rfl, hT21.A, fun ysC H22 yC s22 => ?_⟩
    cases yC.uniq ok y
    walk_at "g"
    refine w_ne rfl ?_
    rw [decide_eq_true rfl]
    walk_at "g"
    refine w_board fun bE dE LE H23 s23 nbE ndE nLE hdE hBE => ?_
    walk_at "g"
    refine ⟨bE, LE, fun _ => False, [], [], rfl, hBE _ (fun _ z => z.elim), fun ysE H24 yE s24 => ?_⟩
    walk_at "g"
    refine ⟨.str _, .str (savS [] ysE), rfl, .str _, savS_len tab_nil yE, .inr ⟨[], ysE, rfl, tab_nil, yE, fun b5 L5 t6 H25 s25 nb5 nL5 hA5 hnm5 hE5 => ?_⟩⟩
    walk_at "g"
    refine w_board fun bF dF LF H26 s26 nbF ndF nLF hdF hBF => ?_
    refine w_neR (hA5.s s26) (hBF (fun _ => False) (fun _ z => z.elim)) tab5_nil hE5 ?_
    have hT26 := ((((hT21.same s22).same s23).same s24).same s25).same s26
    walk_at "g"
    refine ⟨.str _, .str (savS t ys), rfl, .str _, hzl, .inr ⟨t, ys, rfl, ok, y, fun b6 L6 t7 H27 s27 nb6 nL6 hA6 hnm6 hE6 => ?_⟩⟩
    have hT27 := hT26.same s27
    walk_at "g"
    refine w_neR hA6 hT27.A t5 hE6 ?_
    walk_at "g"
    exact hN _ _ rfl hT27.bt
end
end RG
namespace RG
open PySem PySem.Spec PyProof.Rows L2
abbrev lvl : Nat := 26
theorem law_at {K : PySem.W.Frag} {h : Heap} {mg : Str → Option Value} {w : World} {fa : Addr} (X : K.In h) (G : h.Ns mainGlobals mg) (c : He.SaysX fal fnl [] tfl exl w h K) (hmg : mg ("law" : Str) = some (.ref fa)) :
    LamX.LawAtS PySem.Challenge.rw_rollgates_k80_whole_saved_and_woken w K (CXN PySem.Challenge.pw_rollgates_k80_whole_saved_and_woken w) lvl 63 "script" mg fa h := by
  have T := tx_mk X G c
  have e := hmg.symm.trans T.G_law
  cases e
  have ap := apartB_ok (Bool.and_eq_true_iff.mp (Bool.and_eq_true_iff.mp c.more).2).1
  have ok : ∀ base : Heap, TLs base mg K tfS → Ok PySem.Challenge.pw_rollgates_k80_whole_saved_and_woken w K mg base lvl "law" ["script"] (spLawT K tfS) := fun base B => ok_law T B
  obtain ⟨fd, F⟩ := T.F_law
  have b := F.bindsA (ps := ["script"]) (fun _ _ _ _ _ _ us hl => match us, hl with | [_], _ => rfl)
  obtain ⟨oc, od, dV, kV, doc, pm, an, cdv, ct, osl, efd, lk, _⟩ := F.ex
  have fe : fdAt K (He.ga K "law") = some fd := by
    unfold fdAt
    rw [lk]
  have mem : ∀ p ∈ tfS.map (fun x => He.cT K (x, none)), ∃ z ∈ tfl, p = He.cT K z := fun p hp => by
    obtain ⟨x, hx, rfl⟩ := List.mem_map.mp hp
    exact ⟨(x, none), lam_mem hx, rfl⟩
  refine ⟨fd, tfS.map (fun x => He.cT K (x, none)), spLawT K tfS, fun p hp => ?_, fun p hp => ?_, fun p hp => ?_, fun s u => b s [u] rfl, fun H a ns hl _ hT hS => ⟨a, ns, rfl, hS, hl, fun p hp => ?_, fun _ => rfl⟩, fun base _ _ TB => ?_⟩
  · obtain ⟨z, hz, rfl⟩ := mem p hp
    exact c.empty z hz
  · obtain ⟨z, hz, rfl⟩ := mem p hp
    exact c.out z hz
  · obtain ⟨z, hz, rfl⟩ := mem p hp
    exact PySem.W.codeHd_of_K X (c.hd z hz)
  · obtain ⟨x, hx, rfl⟩ := List.mem_map.mp hp
    exact LamX.TabS.nil (hT _ (List.mem_map.mpr ⟨x, hx, rfl⟩))
  · obtain ⟨_, _, fd2, fe2, _, F2⟩ := ok base ⟨fun x hx => TB _ (List.mem_map.mpr ⟨x, hx, rfl⟩), ap⟩
    have e2 := fe.symm.trans fe2
    cases e2
    exact F2
end RG

open PySem PySem.W PySem.Calls PyProof.Rows
set_option maxRecDepth 100000 in
set_option maxHeartbeats 0 in
theorem PySem.Challenge.cw_rollgates_k80_whole_saved_and_woken_holds : PySem.Challenge.rw_rollgates_k80_whole_saved_and_woken.Holds := by
  w_on; o_law
  refine HandSHeadRun.head_any (r := PySem.W.OpenLaw.row PySem.Challenge.rw_rollgates_k80_whole_saved_and_woken) (q := view (PySem.W.OpenLaw.row PySem.Challenge.rw_rollgates_k80_whole_saved_and_woken).prog [75]) (H := RG.hkl) (ob := RG.obl) (M := 8720) (loose := RG.nml) (d := HandSHeadRun.topDef (PySem.W.OpenLaw.row PySem.Challenge.rw_rollgates_k80_whole_saved_and_woken).prog 75) (kwd := []) RG.obl_eq
    (by kernel_rfl) (fun s => by kernel_rfl) RG.runl (by kernel_rfl) (by kernel_rfl) (by kernel_rfl) (by rfl) (by first | assumption | decide +kernel) (by decide +kernel) ⟨rfl, rfl, rfl, rfl, rfl, by decide +kernel⟩ ?hw ?hc
  case hw => w_witness2
  case hc =>
    refine LamX.walk_ofTsE (l := PySem.Challenge.rw_rollgates_k80_whole_saved_and_woken) (n := 63) (k := RG.lvl) (x := "script") (CX := fun w => RG.CXN PySem.Challenge.pw_rollgates_k80_whole_saved_and_woken w) rfl (by decide) (by kernel_rfl) ⟨rfl, by decide, by decide⟩ ?F ?X
    case X =>
      intro w H s e s' z
      obtain ⟨_, _, _, _, _, _, _, _, _, _, _, _, z⟩ := z
      exact z
    case F =>
      intro w mg fa h Y G hmg0
      obtain ⟨K, KX, c⟩ := Y
      have hmg : mg ("law" : PySem.Str) = some (.ref fa) := by
        have e : (HandSHeadRun.topDef (PySem.W.OpenLaw.row PySem.Challenge.rw_rollgates_k80_whole_saved_and_woken).prog 75).name = ("law" : PySem.Str) := by kernel_rfl
        rw [← e]
        exact hmg0
      exact ⟨K, KX, RG.law_at KX G c hmg⟩

