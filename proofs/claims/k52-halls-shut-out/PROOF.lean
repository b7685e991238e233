import PyProof.Rows.All
import Wide.All
import OpenK.AllK
import Wide.FinOn
import KE.KStateDown
import HandS.ForMost
import HandS.ForExc
import HandS.Defaults
import HandS.Lambda
import HandS.EndTab
import HandS.HeadWalk
import HandS.Head0
import HandS.Head1
import HandS.Head2
import HandS.HeadEnd
import HandS.HeadHook1
import HandS.HeadHook2
import HandS.HeadHook3
import HandS.HeadHook4
import HandS.ExcCtx
import HandS.HotCalls
import HandS.IsInst
import HandS.Wide
import HandS.Walk
import HandS.Zip
import HandS.Conv
import HandS.SortInts
import HandS.TupAny
import HandS.Deep
import HandS.Style
import KE.GoesEnum
import KE.GoesMore
import HandS.ExcIs
import HandS.ExcField
import HandS.TupMul
import HandS.SetFor
import HandS.More
import KE.KCallOwn
import PySem.Challenge.RW_rollgates_k52_whole_halls_shut_out
set_option Elab.async false
set_option linter.all false
set_option maxRecDepth 100000
set_option maxHeartbeats 4000000
/-! ### RG core: what every law's proof leans on (own words over the hand layer) -/
namespace RG
open PySem PySem.Spec PyProof.Rows L2

/-! a def of the top, kept by its promise -/
abbrev CXN (P : Program) (w : World) : CXT := L2N.CX P w
/-- every parameter is given, whatever the heap -/
def BindsE (fd : FuncData) (ps : List Str) : Prop := ∀ (s : Shared) (us : List Value), us.length = ps.length → BindsTo s fd ⟨us, []⟩ (ps.zip us)
theorem BindsE.binds {K : PySem.W.Frag} {fd : FuncData} {ps : List Str} (b : BindsE fd ps) : Binds K fd ps [] := fun s us _ hl => by
  rw [List.append_nil] at hl ⊢
  exact b s us hl
def fdAt (K : PySem.W.Frag) (a : Addr) : Option FuncData := match K.lookup a with
  | some ⟨_, _, .func fd, _⟩ => some fd
  | _ => none
structure Ok (P : Program) (w : World) (K : PySem.W.Frag) (mg : Str → Option Value) (base : Heap) (k : Nat) (x : Str) (ps : List Str) (sp : Sp) : Prop where
  gl : mg x = some (.ref (He.ga K x))
  kp : PySem.W.keepIn K (.ref (He.ga K x)) = true
  ex : ∃ fd, fdAt K (He.ga K x) = some fd ∧ BindsE fd ps ∧ FnOk P w K mg base (CXN P w) k (He.ga K x) fd ps sp
/-- how a text's arguments bind when all are given -/
def BindAll (x : Str) (st : Stmt) (ps : List Str) : Prop := ∀ (kV doc pm : Value) (an : Option Addr) (cdv ct : Value) (us : List Value), us.length = ps.length →
  bindArgs (PySem.W.fnOf x x (defArgs st) (defBody st) (defScope st) .none kV doc pm an cdv ct) ⟨us, []⟩ = pure (ps.zip us)
abbrev FnAt (K : PySem.W.Frag) (x : Str) (st : Stmt) : Prop := ∃ fd, FunD K x x (defArgs st) (defBody st) (defScope st) [] [] (He.ga K x) fd
section
variable {P : Program} {w : World} {K : PySem.W.Frag} {mg : Str → Option Value} {base : Heap}
theorem Ok.mk' {x : Str} {st : Stmt} {N ps : List Str} {k : Nat} {sp : Sp} (G : mg x = some (.ref (He.ga K x))) (F : FnAt K x st) (b : BindAll x st ps) (S : FnScope N ps (defScope st)) (len : ∀ vs H Q E, sp vs H Q E → vs.length = ps.length)
    (body : ∀ (cdv : Value) (A : Around) (outer : List Env) (s : Shared) (H : Hp) (vs : List V) (Q : VK) (E : XK), Room k (A.deeper (envOfC x (defScope st) s.heap.objs.size (He.ga K x) cdv)) → sp vs H Q E →
      ∃ t, PSs (cxOf (CXN P w) P w K mg base N x (defScope st) (He.ga K x) cdv A outer s H E) (defBody st) t ∧ t { nx := fun _ H' => Q .non H', rt := Q } (start N vs) H) : Ok P w K mg base (k + 1) x ps sp := by
  obtain ⟨fd, F⟩ := F
  have e : fdAt K (He.ga K x) = some fd := by
    obtain ⟨oc, od, dV, kV, doc, pm, an, cdv, ct, osl, rfl, lk, _⟩ := F.ex
    unfold fdAt
    rw [lk]
  exact ⟨G, F.kp, fd, e, F.bindsA b, F.ok S len body⟩
theorem Ok.mono {x : Str} {ps : List Str} {j k : Nat} {sp : Sp} (G : Ok P w K mg base j x ps sp) (h : j ≤ k) : Ok P w K mg base k x ps sp := by
  obtain ⟨g, kp, fd, fe, b, F⟩ := G
  exact ⟨g, kp, fd, fe, b, F.mono h⟩
theorem Ok.imp {x : Str} {ps : List Str} {k : Nat} {sp sp' : Sp} (G : Ok P w K mg base k x ps sp) (h : ∀ vs H Q E, sp' vs H Q E → sp vs H Q E) : Ok P w K mg base k x ps sp' := by
  obtain ⟨g, kp, fd, fe, b, F⟩ := G
  exact ⟨g, kp, fd, fe, b, F.imp h⟩
end
section
variable {X : Cx}
/-- nothing is let out -/
theorem pn0 : Passes (CXN X.prog X.w) X E0 := fun _ _ _ _ _ _ _ h => by
  obtain ⟨_, _, _, _, _, _, _, _, _, _, _, _, z⟩ := h
  exact z.elim
/-- what a callee lets out leaves this def too -/
theorem pnx {E : XK} (tk : L2N.Takes X (fun cls d _ H => E cls d H)) : Passes (CXN X.prog X.w) X E := L2N.passes_call tk fun _ _ _ _ h => h
/-- f(e, ..) of an own def -/
theorem pe_f {j k : Nat} {x : Str} {ps : List Str} {sp : Sp} {E : XK} {p pos : Pos} {e : Expr} {es : List Expr} {t : TA} (G : Ok X.prog X.w X.K X.mg X.base j x ps sp) (hr : Room k X.A) (hx : Passes (CXN X.prog X.w) X E) (ha : PA X (e :: es) t)
    (hk : j ≤ k := by first | decide | omega) (hg : Gl X x := by rfl) (hdb : (x == ("__debug__" : Str)) = false := by decide)
    (he : starEach (e :: es) X.env = (false, eval e X.env) :: starEach es X.env := by rfl) (hpl : (backTo pos (starEach es X.env)).any (·.1) = false := by rfl) :
    PE X (.Call (.Name x p) (e :: es) [] pos) (tCall sp [] E t) := by
  obtain ⟨g, kp, fd, fe, b, F⟩ := G
  exact pe_call F (hr.mono hk) hg g kp b.binds .nil hx ha hdb he hpl
/-- f() -/
theorem pe_f0 {j k : Nat} {x : Str} {ps : List Str} {sp : Sp} {E : XK} {p pos : Pos} (G : Ok X.prog X.w X.K X.mg X.base j x ps sp) (hr : Room k X.A) (hx : Passes (CXN X.prog X.w) X E)
    (hk : j ≤ k := by first | decide | omega) (hg : Gl X x := by rfl) (hdb : (x == ("__debug__" : Str)) = false := by decide) :
    PE X (.Call (.Name x p) [] [] pos) (tCall sp [] E tNil) := by
  obtain ⟨g, kp, fd, fe, b, F⟩ := G
  exact pe_call0 F (hr.mono hk) hg g kp b.binds .nil hx hdb
/-- a constant of the module -/
theorem pe_gi {x : Str} {i : Int} {pos : Pos} (h : ∃ t, X.mg x = some (.int i t)) (hg : Gl X x := by rfl) (hd : (x == ("__debug__" : Str)) = false := by decide) : PE X (.Name x pos) (tC (.int i)) := by
  obtain ⟨t, h⟩ := h
  exact pe_glob hg h ⟨t, rfl⟩ hd
theorem pe_gs {x z : Str} {pos : Pos} (h : ∃ t, X.mg x = some (.str z t)) (hg : Gl X x := by rfl) (hd : (x == ("__debug__" : Str)) = false := by decide) : PE X (.Name x pos) (tC (.str z)) := by
  obtain ⟨t, h⟩ := h
  exact pe_glob hg h ⟨t, rfl⟩ hd
end
/-- what is known of an own exception class without __init__ -/
structure Exn (K : PySem.W.Frag) (mg : Str → Option Value) (x : Str) : Prop where
  gl : mg x = some (.ref (He.ga K x))
  ok : (He.Fa.exc x).ok K = true
/-- raise X('..') -/
theorem ps_rz {X : Cx} {E : XK} {x m : Str} {j : Nat} {p p2 pos pos' : Pos} (T : Exn X.K X.mg x) (tk : L2N.Takes X (fun cls d _ H => E cls d H)) (hc : X.calm = true := by rfl) (hg : Gl X x := by rfl) (hdb : (x == ("__debug__" : Str)) = false := by decide) :
    PS X (.Raise (some (.Call (.Name x p) [.Constant (.str m) j p2] [] pos)) none pos') (fun _ _ H => E (.ref (He.ga X.K x)) none H) := by
  obtain ⟨a, b, c, d⟩ := He.exc_ok T.ok
  exact L2N.ps_raise hc tk (L2N.pmk_own PySem.F.excBase_ValueError a T.gl b (raises_own c d) hg hdb)

/-! heaps -/
theorem Same.new {H : Hp} {p : Addr} {o : HO} (h : H p = none) : Same H (upd H p o) := fun a u e => by
  rw [upd_ne (ne_of_none e h)]
  exact e
theorem Same.tup {K : PySem.W.Frag} {H H' : Hp} {a : Addr} {xs : List V} (e : Same H H') (h : SqT K H a xs) : SqT K H' a xs := by
  rcases h with (h | ⟨o, h⟩) | h
  · exact .inl (.inl (e _ _ h))
  · exact .inl (.inr ⟨o, e _ _ h⟩)
  · exact .inr h
theorem tup_s {K : PySem.W.Frag} {H H' : Hp} {a : Addr} {xs : List V} (e : Same H H') (h : SqT K H a xs) : SqT K H' a xs := Same.tup e h
theorem tupOf {K : PySem.W.Frag} {H : Hp} {a : Addr} {xs : List V} (h : H a = some (.tup xs)) : SqT K H a xs := .inl (.inl h)
theorem lstOf {K : PySem.W.Frag} {H : Hp} {a : Addr} {xs : List V} (h : H a = some (.lst xs)) : SqL K H a xs := .inl (.inl h)
/-- the dice: a list of two ints -/
def Dice (H : Hp) (a : Addr) : Prop := ∃ x k : Int, H a = some (.lst [.int x, .int k])
/-- all but the dice at a is as it was -/
structure But (a : Addr) (H H' : Hp) : Prop where
  d0 : Dice H a
  d1 : Dice H' a
  kp : ∀ b o, H b = some o → b ≠ a → H' b = some o
theorem Dice.same {H H' : Hp} {a : Addr} (d : Dice H a) (s : Same H H') : Dice H' a := by
  obtain ⟨x, k, h⟩ := d
  exact ⟨x, k, s _ _ h⟩
theorem Dice.ne {H : Hp} {a p : Addr} (d : Dice H a) (h : H p = none) : p ≠ a := by
  obtain ⟨x, k, h1⟩ := d
  exact (ne_of_none h1 h).symm
theorem But.refl {a : Addr} {H : Hp} (d : Dice H a) : But a H H := ⟨d, d, fun _ _ h _ => h⟩
theorem But.same {a : Addr} {H H1 H2 : Hp} (b : But a H H1) (s : Same H1 H2) : But a H H2 := ⟨b.d0, b.d1.same s, fun c o h n => s c o (b.kp c o h n)⟩
theorem But.of {a : Addr} {H H1 : Hp} (d : Dice H a) (s : Same H H1) : But a H H1 := (But.refl d).same s
theorem But.trans {a : Addr} {H H1 H2 : Hp} (b : But a H H1) (c : But a H1 H2) : But a H H2 := ⟨b.d0, c.d1, fun d o h n => c.kp d o (b.kp d o h n) n⟩
theorem But.new {a : Addr} {H H1 : Hp} {p : Addr} {o : HO} (b : But a H H1) (h : H1 p = none) : But a H (upd H1 p o) := b.same (Same.new h)
theorem But.free {a : Addr} {H H1 : Hp} {p : Addr} (b : But a H H1) (h : H1 p = none) : H p = none := by
  cases e : H p with
  | none => rfl
  | some o =>
    by_cases hp : p = a
    · subst hp
      exact absurd rfl (b.d1.ne h)
    · rw [b.kp p o e hp] at h
      cases h
/-- a change of an object that H does not know -/
theorem But.mut {a : Addr} {H H1 : Hp} {p : Addr} {o : HO} (b : But a H H1) (h : H p = none) (np : p ≠ a) : But a H (upd H1 p o) := by
  refine ⟨b.d0, ?_, fun c u e n => ?_⟩
  · obtain ⟨x, k, h1⟩ := b.d1
    exact ⟨x, k, by rw [upd_ne np.symm]; exact h1⟩
  · rw [upd_ne (ne_of_none e h)]
    exact b.kp c u e n
theorem But.tup {K : PySem.W.Frag} {a : Addr} {H H' : Hp} {b : Addr} {xs : List V} (e : But a H H') (h : SqT K H b xs) : SqT K H' b xs := by
  obtain ⟨x, k, hd⟩ := e.d0
  rcases h with (h | ⟨o, h⟩) | h
  · exact .inl (.inl (e.kp _ _ h fun z => by subst z; rw [hd] at h; cases h))
  · exact .inl (.inr ⟨o, e.kp _ _ h fun z => by subst z; rw [hd] at h; cases h⟩)
  · exact .inr h
/-- a change of a list never bears on a tuple -/
theorem tup_mut {K : PySem.W.Frag} {H : Hp} {a p : Addr} {o : HO} {xs ys : List V} (hp : H p = some (.lst ys)) (h : SqT K H a xs) : SqT K (upd H p o) a xs := by
  rcases h with (h | ⟨u, h⟩) | h
  · exact .inl (.inl (by rw [upd_ne (ne_of h hp (by intro z; cases z))]; exact h))
  · exact .inl (.inr ⟨u, by rw [upd_ne (ne_of h hp (by intro z; cases z))]; exact h⟩)
  · exact .inr h
theorem sz {n : Nat} (h : n ≤ 100000) : n ≤ sizeLine := Nat.le_trans h (by decide)
theorem szl {n : Nat} (h : n < 100000) : n < sizeLine := Nat.lt_of_lt_of_le h (by decide)
theorem if_t {c : Bool} {A B : Prop} (hc : c = true) (h : A) : if c = true then A else B := by
  rw [if_pos hc]
  exact h
theorem if_f {c : Bool} {A B : Prop} (hc : c = false) (h : B) : if c = true then A else B := by
  rw [hc, if_neg Bool.false_ne_true]
  exact h
theorem if_b {c : Bool} {A B : Prop} (h1 : c = true → A) (h2 : c = false → B) : if c = true then A else B := by
  cases c with
  | true => exact if_t rfl (h1 rfl)
  | false => exact if_f rfl (h2 rfl)
end RG
/-! ### data -/
namespace RG
open PySem PySem.Spec PyProof.Rows L2
mutual
theorem Same.dp {K : PySem.W.Frag} {H H' : Hp} (s : Same H H') : ∀ {v : V} {d : PyData}, Dp K H v d → Dp K H' v d
  | _, _, .non => .non
  | _, _, .bl b => .bl b
  | _, _, .int i => .int i
  | _, _, .str x => .str x
  | _, _, .lst h a => .lst (s.seq h) (Same.dpAll s a)
  | _, _, .tup h a => .tup (RG.Same.tup s h) (Same.dpAll s a)
theorem Same.dpAll {K : PySem.W.Frag} {H H' : Hp} (s : Same H H') : ∀ {vs : List V} {ds : List PyData}, DpAll K H vs ds → DpAll K H' vs ds
  | _, _, .nil => .nil
  | _, _, .cons a b => .cons (Same.dp s a) (Same.dpAll s b)
end
theorem dp_s {K : PySem.W.Frag} {H H' : Hp} {v : V} {d : PyData} (e : Same H H') (h : Dp K H v d) : Dp K H' v d := Same.dp e h
theorem dps_s {K : PySem.W.Frag} {H H' : Hp} {v : List V} {d : List PyData} (e : Same H H') (h : DpAll K H v d) : DpAll K H' v d := Same.dpAll e h
mutual
/-- no list, no dict within -/
def imm : PyData → Bool
  | .none => true
  | .bool _ => true
  | .int _ => true
  | .str _ => true
  | .tuple xs => immAll xs
  | .list _ => false
  | .dict _ => false
def immAll : List PyData → Bool
  | [] => true
  | x :: xs => imm x && immAll xs
end
mutual
theorem But.dp {K : PySem.W.Frag} {a : Addr} {H H' : Hp} (s : But a H H') : ∀ {v : V} {d : PyData}, imm d = true → Dp K H v d → Dp K H' v d
  | _, _, _, .non => .non
  | _, _, _, .bl b => .bl b
  | _, _, _, .int i => .int i
  | _, _, _, .str x => .str x
  | _, _, i, .lst h a => by simp [imm] at i
  | _, _, i, .tup h a => .tup (s.tup h) (But.dpAll s (by simpa [imm] using i) a)
theorem But.dpAll {K : PySem.W.Frag} {a : Addr} {H H' : Hp} (s : But a H H') : ∀ {vs : List V} {ds : List PyData}, immAll ds = true → DpAll K H vs ds → DpAll K H' vs ds
  | _, _, _, .nil => .nil
  | _, _, i, .cons a b => by
    simp [immAll] at i
    exact .cons (But.dp s i.1 a) (But.dpAll s i.2 b)
end
theorem dpAll_len {K : PySem.W.Frag} {H : Hp} : ∀ {vs : List V} {ds : List PyData}, DpAll K H vs ds → vs.length = ds.length
  | _, _, .nil => rfl
  | _, _, .cons _ b => by simp [dpAll_len b]
theorem dpAll_get {K : PySem.W.Frag} {H : Hp} : ∀ {vs : List V} {ds : List PyData} {i : Nat} {d : PyData}, DpAll K H vs ds → ds[i]? = some d → ∃ v, vs[i]? = some v ∧ Dp K H v d
  | _, _, _, _, .nil, e => by simp at e
  | _, _, 0, _, .cons a _, e => by
    simp at e
    subst e
    exact ⟨_, rfl, a⟩
  | _, _, i + 1, d, .cons _ b, e => by
    obtain ⟨v, h1, h2⟩ := dpAll_get (i := i) (d := d) b (by simpa using e)
    exact ⟨v, by simpa using h1, h2⟩
theorem dpAll_getV {K : PySem.W.Frag} {H : Hp} : ∀ {vs : List V} {ds : List PyData} {i : Nat} {v : V}, DpAll K H vs ds → vs[i]? = some v → ∃ d, ds[i]? = some d ∧ Dp K H v d
  | _, _, _, _, .nil, e => by simp at e
  | _, _, 0, _, .cons a _, e => by
    simp at e
    subst e
    exact ⟨_, rfl, a⟩
  | _, _, i + 1, d, .cons _ b, e => by
    obtain ⟨v, h1, h2⟩ := dpAll_getV (i := i) b (by simpa using e)
    exact ⟨v, by simpa using h1, h2⟩
theorem dpAll_app {K : PySem.W.Frag} {H : Hp} : ∀ {vs us : List V} {ds es : List PyData}, DpAll K H vs ds → DpAll K H us es → DpAll K H (vs ++ us) (ds ++ es)
  | _, _, _, _, .nil, h => h
  | _, _, _, _, .cons a b, h => .cons a (dpAll_app b h)
theorem dpAll_ints {K : PySem.W.Frag} {H : Hp} : ∀ ns : List Int, DpAll K H (ns.map V.int) (ns.map PyData.int)
  | [] => .nil
  | n :: ns => .cons (.int n) (dpAll_ints ns)
def tyD : PyData → String
  | .none => "NoneType"
  | .bool _ => "bool"
  | .int _ => "int"
  | .str _ => "str"
  | .list _ => "list"
  | .tuple _ => "tuple"
  | .dict _ => "dict"
theorem dpAll_intsV {K : PySem.W.Frag} {H : Hp} : ∀ {ns : List Int} {vs : List V}, DpAll K H vs (ns.map PyData.int) → vs = ns.map V.int
  | [], _, .nil => rfl
  | n :: ns, _, .cons a b => by
    cases a
    rw [dpAll_intsV b]
    rfl
theorem dp_ty {K : PySem.W.Frag} {H : Hp} {v : V} {d : PyData} (h : Dp K H v d) : TyX K H v (.type (tyD d)) := by
  cases h with
  | non => exact .base .non
  | bl b => exact .base (.bl b)
  | int i => exact .base (.int i)
  | str x => exact .base (.str x)
  | lst h a =>
    rcases h with (h | ⟨o, h⟩) | ⟨o, its, n, h1, h2, _⟩
    · exact .base (.lst h)
    · exact .base (.frz h)
    · exact .kList h1 h2
  | tup h a =>
    rcases h with (h | ⟨o, h⟩) | ⟨o, its, n, h1, h2, _⟩
    · exact .base (.tup h)
    · exact .fTuple h
    · exact .kTuple h1 h2
def isIntD : PyData → Bool
  | .int _ => true
  | .bool _ => true
  | _ => false
def isBoolD : PyData → Bool
  | .bool _ => true
  | _ => false
def isTupD : PyData → Bool
  | .tuple _ => true
  | _ => false
def isStrD : PyData → Bool
  | .str _ => true
  | _ => false
def isListD : PyData → Bool
  | .list _ => true
  | _ => false
section
variable {K : PySem.W.Frag} {H : Hp} {v : V} {d : PyData} {Q : VK}
theorem isi_int (h : Dp K H v d) (q : Q (.bl (isIntD d)) H) : rIsi K [v, .ty "int"] H Q := by
  refine ⟨v, _, _, _, isIntD d, rfl, .ty _, dp_ty h, ?_, q⟩
  cases d <;> exact kit_ty (by kernel_rfl)
theorem isi_bool (h : Dp K H v d) (q : Q (.bl (isBoolD d)) H) : rIsi K [v, .ty "bool"] H Q := by
  refine ⟨v, _, _, _, isBoolD d, rfl, .ty _, dp_ty h, ?_, q⟩
  cases d <;> exact kit_ty (by kernel_rfl)
theorem isi_tuple (h : Dp K H v d) (q : Q (.bl (isTupD d)) H) : rIsi K [v, .ty "tuple"] H Q := by
  refine ⟨v, _, _, _, isTupD d, rfl, .ty _, dp_ty h, ?_, q⟩
  cases d <;> exact kit_ty (by kernel_rfl)
theorem isi_str (h : Dp K H v d) (q : Q (.bl (isStrD d)) H) : rIsi K [v, .ty "str"] H Q := by
  refine ⟨v, _, _, _, isStrD d, rfl, .ty _, dp_ty h, ?_, q⟩
  cases d <;> exact kit_ty (by kernel_rfl)
theorem isi_list (h : Dp K H v d) (q : Q (.bl (isListD d)) H) : rIsi K [v, .ty "list"] H Q := by
  refine ⟨v, _, _, _, isListD d, rfl, .ty _, dp_ty h, ?_, q⟩
  cases d <;> exact kit_ty (by kernel_rfl)
theorem dp_tuple {ds : List PyData} (h : Dp K H v (.tuple ds)) : ∃ a xs, v = .ref a ∧ SqT K H a xs ∧ DpAll K H xs ds := by
  cases h with
  | tup h a => exact ⟨_, _, rfl, h, a⟩
theorem dp_list {ds : List PyData} (h : Dp K H v (.list ds)) : ∃ a xs, v = .ref a ∧ SqL K H a xs ∧ DpAll K H xs ds := by
  cases h with
  | lst h a => exact ⟨_, _, rfl, h, a⟩
theorem dp_int {i : Int} (h : Dp K H v (.int i)) : v = .int i := by
  cases h
  rfl
theorem dp_str {x : Str} (h : Dp K H v (.str x)) : v = .str x := by
  cases h
  rfl
/-- an item of a tuple that is data -/
theorem ix_data {ds : List PyData} {j : Nat} {e : PyData} {u : V} (h : Dp K H v (.tuple ds)) (hj : ds[j]? = some e) (q : ∀ u, Dp K H u e → Q u H) : rIxT K v (.int (j : Nat)) H Q := by
  obtain ⟨a, xs, rfl, hs, ha⟩ := dp_tuple h
  obtain ⟨u, hu, du⟩ := dpAll_get ha hj
  exact ⟨a, xs, _, u, rfl, rfl, hs, atI_nat hu, q u du⟩
theorem len_tup {ds : List PyData} (h : Dp K H v (.tuple ds)) (q : Q (.int (ds.length : Nat)) H) : ∃ x n, [v] = [x] ∧ LenV K x H n ∧ Q (.int (n : Nat)) H := by
  obtain ⟨a, xs, rfl, hs, ha⟩ := dp_tuple h
  exact ⟨_, ds.length, rfl, .inr ⟨xs, hs, (dpAll_len ha).symm⟩, q⟩
end
end RG
/-! ### readings, step by step -/
namespace RG
open PySem PySem.Spec PyProof.Rows L2
abbrev oAdd : R2 := rI0 fun i j => .int (i + j)
abbrev oSub : R2 := rI0 fun i j => .int (i - j)
abbrev oMul : R2 := rI CMul fun i j => .int (i * j)
abbrev oMulW : R2 := rI CMulW fun i j => .int (i * j)
abbrev oDiv : R2 := rI CDivW fun i j => .int (i / j)
abbrev oMod : R2 := rI (fun _ j => 0 < j) fun i j => .int (i % j)
abbrev oPow : R2 := rI CPow fun i j => .int (i ^ j.toNat)
abbrev oLt : R2 := rI0 fun i j => .bl (decide (i < j))
abbrev oLe : R2 := rI0 fun i j => .bl (decide (i ≤ j))
abbrev oGt : R2 := rI0 fun i j => .bl (decide (j < i))
abbrev oGe : R2 := rI0 fun i j => .bl (decide (j ≤ i))
def oIsN : R2 := fun x y H Q => y = .non ∧ Q (.bl (decide (x = .non))) H
def oNotN : R2 := fun x y H Q => y = .non ∧ Q (.bl (!decide (x = .non))) H
def oAddS : R2 := fun x y H Q => ∃ i j, x = .str i ∧ y = .str j ∧ i.length + j.length ≤ sizeLine ∧ Q (.str (i ++ j)) H
def cLen (K : PySem.W.Frag) : List V → Hp → VK → Prop := fun xs H Q => ∃ x n, xs = [x] ∧ LenV K x H n ∧ Q (.int (n : Nat)) H
def cMax2 : List V → Hp → VK → Prop := fun xs H Q => ∃ i j, xs = [.int i, .int j] ∧ Q (.int (if j > i then j else i)) H
def cMin2 : List V → Hp → VK → Prop := fun xs H Q => ∃ i j, xs = [.int i, .int j] ∧ Q (.int (if j < i then j else i)) H
def cInt1 : List V → Hp → VK → Prop := fun xs H Q => (∃ i, xs = [.int i] ∧ Q (.int i) H) ∨ ∃ k, xs = [.bl k] ∧ Q (.int (if k then 1 else 0)) H
def cTuple (K : PySem.W.Frag) : List V → Hp → VK → Prop := fun xs H Q => ∃ p ys, xs = [.ref p] ∧ ((SqL K H p ys ∧ ∀ l, H l = none → Q (.ref l) (upd H l (.tup ys))) ∨ (SqT K H p ys ∧ Q (.ref p) H))
def cList (K : PySem.W.Frag) : List V → Hp → VK → Prop := fun xs H Q => ∃ p ys, xs = [.ref p] ∧ (SqL K H p ys ∨ SqT K H p ys) ∧ ∀ l, H l = none → Q (.ref l) (upd H l (.lst ys))
abbrev NewL (xs : List V) (H : Hp) (Q : VK) : Prop := xs.length ≤ sizeLine ∧ ∀ p, H p = none → Q (.ref p) (upd H p (.lst xs))
abbrev NewT (xs : List V) (H : Hp) (Q : VK) : Prop := xs.length ≤ sizeLine ∧ ∀ p, H p = none → Q (.ref p) (upd H p (.tup xs))
def tRz (K : PySem.W.Frag) (E : XK) (x : Str) : TS := fun _ _ H => E (.ref (He.ga K x)) none H
section
variable {K : PySem.W.Frag} {σ : L2.St} {H : Hp} {D : Ends} {t u : TS} {te ta tb tc : TE} {Q : VK} {g : TG} {x y v : V} {i : Nat} {tA tB' : TT} {QB : Bool → Hp → Prop} {ts : TA} {QA : List V → Hp → Prop} {E : XK} {sp : Sp}
theorem w_seq (h : t { D with nx := u D } σ H) : tSeq t u D σ H := h
theorem w_next (h : D.nx σ H) : tNext D σ H := h
theorem w_ret (h : te σ H D.rt) : tRet te D σ H := h
theorem w_retN (h : D.rt .non H) : tRetN D σ H := h
theorem w_drop (h : te σ H fun _ H1 => D.nx σ H1) : tDrop te D σ H := h
theorem w_ifs (h : tA σ H fun b H1 => if b = true then t D σ H1 else u D σ H1) : tIfS tA t u D σ H := h
theorem w_set (h : te σ H fun x H1 => D.nx (σ.set i (some x)) H1) : tAsg te (gName i) D σ H := h
theorem w_asg (h : te σ H fun x H1 => g x σ H1 D.nx) : tAsg te g D σ H := h
theorem w_par {j : Nat} (h : ts σ H fun vs H1 => ∃ v w, vs = [v, w] ∧ D.nx ((σ.set i (some v)).set j (some w)) H1) : tPar i j ts D σ H := h
theorem w_rz (h : E (.ref (He.ga K z)) none H) : tRz K E z D σ H := h
theorem w_var (e : σ[i]? = some (some v)) (h : Q v H) : tVar i σ H Q := ⟨v, e, h⟩
theorem w_c (h : Q v H) : tC v σ H Q := h
theorem w_op {r : R2} (h : ta σ H fun x H1 => tb σ H1 fun y H2 => r x y H2 Q) : tOp r ta tb σ H Q := h
theorem w_un {r : V → Hp → VK → Prop} (h : ta σ H fun x H1 => r x H1 Q) : tUn r ta σ H Q := h
theorem w_I0 {f : Int → Int → V} {m n : Int} (h : Q (f m n) H) : rI0 f (.int m) (.int n) H Q := ⟨m, n, rfl, rfl, h⟩
theorem w_I {C : Int → Int → Prop} {f : Int → Int → V} {m n : Int} (c : C m n) (h : Q (f m n) H) : rI C f (.int m) (.int n) H Q := ⟨m, n, rfl, rfl, c, h⟩
theorem w_U {f : Int → V} {m : Int} (h : Q (f m) H) : rU f (.int m) H Q := ⟨m, rfl, h⟩
theorem w_eq (e : scal x y = true) (h : Q (.bl (decide (x = y))) H) : rEq x y H Q := ⟨e, h⟩
theorem w_ne (e : scal x y = true) (h : Q (.bl (!decide (x = y))) H) : rNe x y H Q := ⟨e, h⟩
theorem w_eqI {m n : Int} (h : Q (.bl (decide (m = n))) H) : rEq (.int m) (.int n) H Q := ⟨rfl, by
  have e : decide (V.int m = V.int n) = decide (m = n) := by simp
  rw [e]
  exact h⟩
theorem w_neI {m n : Int} (h : Q (.bl (!decide (m = n))) H) : rNe (.int m) (.int n) H Q := ⟨rfl, by
  have e : decide (V.int m = V.int n) = decide (m = n) := by simp
  rw [e]
  exact h⟩
theorem w_eqS {m n : Str} (h : Q (.bl (decide (m = n))) H) : rEq (.str m) (.str n) H Q := ⟨rfl, by
  have e : decide (V.str m = V.str n) = decide (m = n) := by simp
  rw [e]
  exact h⟩
theorem w_isN (h : Q (.bl (decide (x = .non))) H) : oIsN x .non H Q := ⟨rfl, h⟩
theorem w_notN (h : Q (.bl (!decide (x = .non))) H) : oNotN x .non H Q := ⟨rfl, h⟩
theorem w_chain {r r' : R2} (h : ta σ H fun x H1 => tb σ H1 fun y H2 => r x y H2 fun z H3 => ∃ k, z = .bl k ∧ if k = true then tc σ H3 fun w H4 => r' y w H4 Q else Q (.bl false) H3) : tChain r r' ta tb tc σ H Q := h
theorem w_test (h : te σ H fun x H1 => ∃ k, x = .bl k ∧ QB k H1) : tTest te σ H QB := h
theorem w_B (h : te σ H fun x H1 => ∃ k, x = .bl k ∧ QB k H1) : tB te σ H QB := h
theorem w_and (h : tA σ H fun c H1 => if c = true then tB' σ H1 QB else QB false H1) : tAnd tA tB' σ H QB := h
theorem w_or (h : tA σ H fun c H1 => if c = true then QB true H1 else tB' σ H1 QB) : tOr tA tB' σ H QB := h
theorem w_not (h : tA σ H fun c H1 => QB (!c) H1) : tNot tA σ H QB := h
theorem w_andV (h : ta σ H fun x H1 => ∃ c, x = .bl c ∧ if c = true then tb σ H1 Q else Q (.bl false) H1) : tAndV ta tb σ H Q := h
theorem w_orV (h : ta σ H fun x H1 => ∃ c, x = .bl c ∧ if c = true then Q (.bl true) H1 else tb σ H1 Q) : tOrV ta tb σ H Q := h
theorem w_notV (h : ta σ H fun x H1 => ∃ c, x = .bl c ∧ Q (.bl (!c)) H1) : tNotV ta σ H Q := h
theorem w_if (h : tA σ H fun c H1 => if c = true then ta σ H1 Q else tb σ H1 Q) : tIf tA ta tb σ H Q := h
theorem w_nil (h : QA [] H) : tNil σ H QA := h
theorem w_cons (h : te σ H fun x H1 => ts σ H1 fun xs H2 => QA (x :: xs) H2) : tCons te ts σ H QA := h
theorem w_tup (h : ts σ H fun xs H1 => NewT xs H1 Q) : tTup ts σ H Q := h
theorem w_lst (h : ts σ H fun xs H1 => NewL xs H1 Q) : tLst ts σ H Q := h
theorem w_call (h : ts σ H fun vs H1 => sp (vs ++ []) H1 Q E) : tCall sp [] E ts σ H Q := h
theorem w_cb {r : List V → Hp → VK → Prop} (h : ts σ H fun vs H1 => r vs H1 Q) : tCB r ts σ H Q := h
theorem w_sl {r : V → Option Int → Option Int → Hp → VK → Prop} {tl th : TO} (h : te σ H fun x H1 => tl σ H1 fun l H2 => th σ H2 fun u H3 => r x l u H3 Q) : tSl r te tl th σ H Q := h
theorem w_part {QO : Option Int → Hp → Prop} (h : te σ H fun x H1 => ∃ k, x = .int k ∧ QO (some k) H1) : tPart te σ H QO := h
theorem w_noPart {QO : Option Int → Hp → Prop} (h : QO none H) : tNoPart σ H QO := h
theorem w_bm {T : String} {r : V → List V → Hp → VK → Prop} (h : te σ H fun x H1 => tyV K T x H1 ∧ ts σ H1 fun xs H2 => r x xs H2 Q) : tBM K T r te ts σ H Q := h
theorem w_bm0 {T : String} {r : V → List V → Hp → VK → Prop} (h : te σ H fun x H1 => tyV K T x H1 ∧ r x [] H1 Q) : tBM0 K T r te σ H Q := h
theorem w_sub {to ti : TE} {st : TSet} {R : L2.St → Hp → Prop} (h : to σ H fun o H1 => ti σ H1 fun i H2 => st o i v H2 fun H3 => R σ H3) : gSub to ti st v σ H R := h
theorem w_name {R : L2.St → Hp → Prop} (h : R (σ.set i (some v)) H) : gName i v σ H R := h
theorem w_max2 {m n : Int} (h : Q (.int (if n > m then n else m)) H) : cMax2 [.int m, .int n] H Q := ⟨m, n, rfl, h⟩
theorem w_min2 {m n : Int} (h : Q (.int (if n < m then n else m)) H) : cMin2 [.int m, .int n] H Q := ⟨m, n, rfl, h⟩
theorem w_intI {m : Int} (h : Q (.int m) H) : cInt1 [.int m] H Q := .inl ⟨m, rfl, h⟩
theorem w_intB {b : Bool} (h : Q (.int (if b then 1 else 0)) H) : cInt1 [.bl b] H Q := .inr ⟨b, rfl, h⟩
theorem w_lenT {a : Addr} {xs : List V} (s : SqT K H a xs) (h : Q (.int (xs.length : Nat)) H) : cLen K [.ref a] H Q := ⟨_, _, rfl, .inr ⟨xs, s, rfl⟩, h⟩
theorem w_lenL {a : Addr} {xs : List V} (s : SqL K H a xs) (h : Q (.int (xs.length : Nat)) H) : cLen K [.ref a] H Q := ⟨_, _, rfl, .inl ⟨xs, s, rfl⟩, h⟩
theorem w_lenS {z : Str} (s : z.length ≤ 100000) (h : Q (.int (z.length : Nat)) H) : cLen K [.str z] H Q := ⟨_, _, rfl, ⟨sz s, rfl⟩, h⟩
theorem w_lenD {d : List PyData} (s : Dp K H v (.tuple d)) (h : Q (.int (d.length : Nat)) H) : cLen K [v] H Q := by
  obtain ⟨a, xs, rfl, hs, ha⟩ := dp_tuple s
  exact ⟨_, _, rfl, .inr ⟨xs, hs, (dpAll_len ha).symm⟩, h⟩
theorem w_ixT {a : Addr} {xs : List V} {k : Int} (s : SqT K H a xs) (e : atI xs k = some v) (h : Q v H) : rIxT K (.ref a) (.int k) H Q := ⟨a, xs, k, v, rfl, rfl, s, e, h⟩
theorem w_ixL {a : Addr} {xs : List V} {k : Int} (s : SqL K H a xs) (e : atI xs k = some v) (h : Q v H) : rIxL K (.ref a) (.int k) H Q := ⟨a, xs, k, v, rfl, rfl, s, e, h⟩
theorem w_ixD {ds : List PyData} {j : Nat} {e : PyData} (s : Dp K H v (.tuple ds)) (hj : ds[j]? = some e) (q : ∀ u, Dp K H u e → Q u H) : rIxT K v (.int (j : Nat)) H Q := ix_data (u := .non) s hj q
theorem w_ixD0 {ds : List PyData} {e : PyData} (s : Dp K H v (.tuple (e :: ds))) (q : ∀ u, Dp K H u e → Q u H) : rIxT K v (.int 0) H Q := ix_data (j := 0) (u := .non) s rfl q
theorem w_ixD1 {ds : List PyData} {e e0 : PyData} (s : Dp K H v (.tuple (e0 :: e :: ds))) (q : ∀ u, Dp K H u e → Q u H) : rIxT K v (.int 1) H Q := ix_data (j := 1) (u := .non) s rfl q
theorem w_ixD2 {ds : List PyData} {e e0 e1 : PyData} (s : Dp K H v (.tuple (e0 :: e1 :: e :: ds))) (q : ∀ u, Dp K H u e → Q u H) : rIxT K v (.int 2) H Q := ix_data (j := 2) (u := .non) s rfl q
theorem w_setL {a : Addr} {xs : List V} {k : Int} {j : Nat} {R : Hp → Prop} (s : H a = some (.lst xs)) (e : ixN xs.length k = some j) (h : R (upd H a (.lst (xs.set j v)))) : rSetL (.ref a) (.int k) v H R := ⟨a, xs, k, j, rfl, rfl, s, e, h⟩
theorem w_app {a : Addr} {xs : List V} (s : H a = some (.lst xs)) (z : xs.length < 100000) (h : Q .non (upd H a (.lst (xs ++ [v])))) : rAppend (.ref a) [v] H Q := ⟨a, xs, v, rfl, rfl, s, szl z, h⟩
theorem w_eqD {d e : PyData} (hx : Dp K H x d) (hy : Dp K H y e) (sd : SeqAt.shaped d = true) (se : SeqAt.shaped e = true) (h : Q (.bl (PyData.eqv d e)) H) : rEqD K x y H Q := ⟨d, e, hx, hy, sd, se, h⟩
theorem w_neD {d e : PyData} (hx : Dp K H x d) (hy : Dp K H y e) (sd : SeqAt.shaped d = true) (se : SeqAt.shaped e = true) (h : Q (.bl (!PyData.eqv d e)) H) : rNeD K x y H Q := ⟨d, e, hx, hy, sd, se, h⟩
end
end RG
/-! ### loops and comprehensions -/
namespace RG
open PySem PySem.Spec PyProof.Rows L2
/-- what is left of a comprehension when its iterator stands -/
def LcGoal (J : It) (g : TG) (tt : TT) (te : TE) (vs : List Nat) (σ : L2.St) (H1 : Hp) (Q : VK) : Prop := ∀ D, H1 D = none → ∃ W : Nat → Nat → Hp → Prop, (∃ m, W 0 m (upd H1 D (.lst []))) ∧ ∀ i m H, W i m H →
  (J.stop i H ∧ Q (.ref D) H) ∨ (J.go i H ∧ ∃ Nx : Hp → Prop, (∀ H', Nx H' → ∃ m', m' < m ∧ W (i + 1) m' H') ∧ ∀ x H', J.yld i H x H' → g x (wipe σ vs) H' fun σ2 H2 => wipe σ2 vs = wipe σ vs ∧ tt σ2 H2 fun b H3 =>
    if b = true then te σ2 H3 fun y H4 => ∃ acc, H4 D = some (.lst acc) ∧ acc.length < sizeLine ∧ Nx (upd H4 D (.lst (acc ++ [y]))) else Nx H3)
def ForGoal (J : It) (g : TG) (tb : TS) (D : Ends) (σ : L2.St) (H1 : Hp) : Prop := ∃ W : Nat → Nat → L2.St → Hp → Prop, (∃ m, W 0 m σ H1) ∧ ∀ i m σ H, W i m σ H →
  (J.stop i H ∧ D.nx σ H) ∨ (J.go i H ∧ ∃ N : L2.St → Hp → Prop, (∀ σ' H', N σ' H' → ∃ m', m' < m ∧ W (i + 1) m' σ' H') ∧ ∀ x H', J.yld i H x H' → g x σ H' fun σ2 H2 => tb { D with nx := N, ct := N, bk := D.nx } σ2 H2)
/-- a turn's end that keeps an item, that keeps none -/
def LcNx (Iv : Nat → List V → Hp → Prop) (D : Addr) (i : Nat) (y : V) (H4 : Hp) : Prop := ∃ acc, H4 D = some (.lst acc) ∧ acc.length < sizeLine ∧ ∃ acc', acc'.length ≤ i + 1 ∧ (upd H4 D (.lst (acc ++ [y]))) D = some (.lst acc') ∧ Iv (i + 1) acc' (upd H4 D (.lst (acc ++ [y])))
def LcSk (Iv : Nat → List V → Hp → Prop) (D : Addr) (i : Nat) (H3 : Hp) : Prop := ∃ acc', acc'.length ≤ i + 1 ∧ H3 D = some (.lst acc') ∧ Iv (i + 1) acc' H3
section
variable {K : PySem.W.Frag} {σ : L2.St} {H : Hp} {D : Ends} {tb : TS} {te tl : TE} {Q : VK} {g : TG} {tt : TT} {wi : TI} {ta : TA} {vs : List Nat} {R : It → Hp → Prop} {J : It} {n : Nat} {G : Hp → Prop} {Y : Nat → Hp → V → Hp → Prop}
theorem w_lc (h : wi σ H fun J H1 => LcGoal J g tt te vs σ H1 Q) : tLc wi g tt te vs σ H Q := h
theorem w_for (h : wi σ H fun J H1 => ForGoal J g tb D σ H1) : tFor wi g tb D σ H := h
theorem w_rng1 (h : ta σ H fun vs H1 => ∃ j : Int, vs = [.int j] ∧ -(2 ^ 62) ≤ j ∧ j < 2 ^ 62 ∧ R (Itr 0 j.toNat) H1) : iRng1 ta σ H R := h
theorem w_rng2 (h : ta σ H fun vs H1 => ∃ i j : Int, vs = [.int i, .int j] ∧ (-(2 ^ 62) ≤ i ∧ i < 2 ^ 62 ∧ -(2 ^ 62) ≤ j ∧ j < 2 ^ 62) ∧ R (Itr i (j - i).toNat) H1) : iRng2 ta σ H R := h
theorem w_iList (h : tl σ H fun x H1 => ∃ a, x = .ref a ∧ (∃ xs, SqL K H1 a xs) ∧ R (Itl K a) H1) : iList K tl σ H R := h
theorem w_iTup (h : tl σ H fun x H1 => ∃ a, x = .ref a ∧ (∃ xs, SqT K H1 a xs) ∧ R (Itt K a) H1) : iTup K tl σ H R := h
theorem w_iEnum (h : ta σ H fun vs H1 => ∃ a xs, vs = [.ref a] ∧ SqL K H1 a xs ∧ R (Ite K a) H1) : iEnum K ta σ H R := h
theorem w_iZip (h : ta σ H fun vs H1 => ∃ a b xs ys, vs = [.ref a, .ref b] ∧ SqL K H1 a xs ∧ SqL K H1 b ys ∧ R (Itz K a b) H1) : iZip K ta σ H R := h
theorem for_go (w : Walk J n G Y) (Pv : Nat → L2.St → Hp → Prop) (h0 : Pv 0 σ H) (hG : ∀ i σ H, i ≤ n → Pv i σ H → G H)
    (hs : ∀ i x σ H H', i < n → Pv i σ H → Y i H x H' → g x σ H' fun σ2 H2 => tb { D with nx := Pv (i + 1), ct := Pv (i + 1), bk := D.nx } σ2 H2) (hd : ∀ σ H, Pv n σ H → D.nx σ H) : ForGoal J g tb D σ H := for_it w Pv h0 hG hs hd
theorem lc_go (w : Walk J n G Y) (hn : n ≤ 50000) (Iv : Addr → Nat → List V → Hp → Prop) (h0 : ∀ D, H D = none → Iv D 0 [] (upd H D (.lst [])))
    (hG : ∀ D i acc H', H D = none → H' D = some (.lst acc) → Iv D i acc H' → G H')
    (hs : ∀ D i acc x H' H'', H D = none → i < n → acc.length ≤ i → H' D = some (.lst acc) → Iv D i acc H' → Y i H' x H'' → g x (wipe σ vs) H'' fun σ2 H2 => wipe σ2 vs = wipe σ vs ∧ tt σ2 H2 fun b H3 =>
      if b = true then te σ2 H3 fun y H4 => LcNx (Iv D) D i y H4 else LcSk (Iv D) D i H3)
    (hd : ∀ D acc H', H D = none → H' D = some (.lst acc) → acc.length ≤ n → Iv D n acc H' → Q (.ref D) H') : LcGoal J g tt te vs σ H Q := fun D hD => by
  refine lc_it w (fun i H' => ∃ acc, acc.length ≤ i ∧ H' D = some (.lst acc) ∧ Iv D i acc H') ⟨[], Nat.le_refl _, upd_same, h0 D hD⟩ (fun i H' _ ⟨acc, _, a, b⟩ => hG D i acc H' hD a b) ?_ (fun H' ⟨acc, a, b, c⟩ => hd D acc H' hD b a c)
  rintro i x H' H'' hi ⟨acc, a, b, c⟩ y
  exact hs D i acc x H' H'' hD hi a b c y
theorem lc_nx {Iv : Nat → List V → Hp → Prop} {A : Addr} {i : Nat} {y : V} {H4 : Hp} {acc : List V} (hi : i < 90000) (hl : acc.length ≤ i) (h : H4 A = some (.lst acc)) (q : Iv (i + 1) (acc ++ [y]) (upd H4 A (.lst (acc ++ [y])))) : LcNx Iv A i y H4 :=
  ⟨acc, h, szl (by omega), acc ++ [y], by simp; omega, upd_same, q⟩
theorem lc_sk {Iv : Nat → List V → Hp → Prop} {A : Addr} {i : Nat} {H3 : Hp} {acc : List V} (hl : acc.length ≤ i) (h : H3 A = some (.lst acc)) (q : Iv (i + 1) acc H3) : LcSk Iv A i H3 := ⟨acc, by omega, h, q⟩
theorem w_lrg {tr : L2.St → Hp → (Int → Int → Hp → Prop) → Prop} (h : tr σ H fun a b H1 => RgOk a b ∧ ∀ q, H1 q = none → Q (.ref q) (upd H1 q (.lst (rgV a b)))) : tLstRg tr σ H Q := h
theorem w_rg1 {k : Int → Int → Hp → Prop} (h : te σ H fun x H1 => ∃ n : Int, x = .int n ∧ k 0 n H1) : tRg1 te σ H k := h
theorem w_yes {QB : Bool → Hp → Prop} (h : QB true H) : tYes σ H QB := h
theorem w_gtup {m : Nat} {t : TGs} {a : Addr} {xs : List V} {R : L2.St → Hp → Prop} (s : SqT K H a xs) (e : xs.length = m) (h : t xs σ H R) : gTup K m t (.ref a) σ H R := ⟨a, xs, rfl, s, e, h⟩
theorem w_gcons {t : TG} {u : TGs} {v : V} {r : List V} {R : L2.St → Hp → Prop} (h : t v σ H fun σ' H' => u r σ' H' R) : gCons t u (v :: r) σ H R := ⟨v, r, rfl, h⟩
theorem w_gnil {R : L2.St → Hp → Prop} (h : R σ H) : gNil [] σ H R := ⟨rfl, h⟩
end
end RG
/-! ### comprehensions that change nothing; slices; in -/
namespace RG
open PySem PySem.Spec PyProof.Rows L2
/-- behind i turns: all that stood stands, the list holds what the turns gave -/
def IvP (H : Hp) (l : List (List V)) (D : Addr) (i : Nat) (acc : List V) (H' : Hp) : Prop := Same H H' ∧ acc = (l.take i).flatten
section
variable {K : PySem.W.Frag} {σ : L2.St} {H : Hp} {te : TE} {Q : VK} {g : TG} {tt : TT} {vs : List Nat} {J : It} {n : Nat} {G : Hp → Prop} {Y : Nat → Hp → V → Hp → Prop}
theorem take_flat {l : List (List V)} {i : Nat} {x : List V} (h : l[i]? = some x) : (l.take (i + 1)).flatten = (l.take i).flatten ++ x := by
  rw [List.take_add_one, h]
  simp
theorem lc_pure (w : Walk J n G Y) (hn : n ≤ 50000) (l : List (List V)) (hl : l.length = n) (hG : ∀ H', Same H H' → G H')
    (hs : ∀ D i acc x H' H'', H D = none → i < n → acc.length ≤ i → H' D = some (.lst acc) → IvP H l D i acc H' → Y i H' x H'' → g x (wipe σ vs) H'' fun σ2 H2 => wipe σ2 vs = wipe σ vs ∧ tt σ2 H2 fun b H3 =>
      if b = true then te σ2 H3 fun y H4 => LcNx (IvP H l D) D i y H4 else LcSk (IvP H l D) D i H3)
    (hd : ∀ D H', H D = none → Same H H' → H' D = some (.lst l.flatten) → Q (.ref D) H') : LcGoal J g tt te vs σ H Q := by
  refine lc_go w hn (IvP H l) (fun D hD => ⟨Same.new hD, rfl⟩) (fun D i acc H' hD _ iv => hG H' iv.1) hs fun D acc H' hD hH' _ iv => hd D H' hD iv.1 ?_
  rw [hH', iv.2, List.take_of_length_le (by omega)]
theorem lcp_nx {l : List (List V)} {A : Addr} {i : Nat} {y : V} {acc : List V} {H' H4 : Hp} (hD : H A = none) (hi : i < 90000) (hl : acc.length ≤ i) (h : H' A = some (.lst acc)) (iv : IvP H l A i acc H') (s : Same H' H4) (e : l[i]? = some [y]) : LcNx (IvP H l A) A i y H4 :=
  lc_nx hi hl (s _ _ h) ⟨fun b o q => by
    rw [upd_ne (ne_of_none q hD)]
    exact s _ _ (iv.1 _ _ q), by rw [take_flat e, iv.2]⟩
theorem lcp_sk {l : List (List V)} {A : Addr} {i : Nat} {acc : List V} {H' H4 : Hp} (hl : acc.length ≤ i) (h : H' A = some (.lst acc)) (iv : IvP H l A i acc H') (s : Same H' H4) (e : l[i]? = some []) : LcSk (IvP H l A) A i H4 :=
  lc_sk hl (s _ _ h) ⟨iv.1.trans s, by rw [take_flat e, iv.2, List.append_nil]⟩
theorem flat_one {α : Type} (f : α → V) : ∀ l : List α, (l.map fun x => [f x]).flatten = l.map f
  | [] => rfl
  | x :: r => by
    simp only [List.map_cons, List.flatten_cons, flat_one f r]
    rfl
theorem flat_if {α : Type} (p : α → Bool) (f : α → V) : ∀ l : List α, (l.map fun x => if p x = true then [f x] else []).flatten = (l.filter p).map f
  | [] => rfl
  | x :: r => by
    simp only [List.map_cons, List.flatten_cons, flat_if p f r, List.filter_cons]
    split <;> rfl
theorem cutV_tail (x : V) (xs : List V) : cutV (x :: xs) (some 1) none = xs := by
  have h1 : HT.sIx (x :: xs).length 0 (some 1) = min 1 (x :: xs).length := HT.sIx_nat _ 0 1
  have h2 : min 1 (x :: xs).length = 1 := by
    rw [List.length_cons]
    omega
  unfold cutV
  rw [h1, h2, HT.sIx_none]
  simp
/-- t[1:] of a tuple that isn't empty -/
theorem w_sl1 {a : Addr} {x : V} {xs : List V} (s : SqT K H a (x :: xs)) (h : ∀ p, H p = none → Q (.ref p) (upd H p (.tup xs))) : rSlA K (.ref a) (some 1) none H Q := by
  refine ⟨a, _, rfl, s, fun z => ?_, fun _ p np => ?_⟩
  · have h1 : HT.sIx (x :: xs).length 0 (some 1) = min 1 (x :: xs).length := HT.sIx_nat _ 0 1
    rw [h1, List.length_cons] at z
    omega
  · rw [cutV_tail]
    exact h p np
theorem w_inT {x : V} {a : Addr} {xs : List V} (s : SqT K H a xs) (fx : flatV x = true) (fs : xs.all flatV = true) (h : Q (.bl (inV x xs)) H) : rIn K false x (.ref a) H Q := ⟨a, xs, rfl, .inr s, fx, fs, h⟩
theorem w_inL {x : V} {a : Addr} {xs : List V} (s : SqL K H a xs) (fx : flatV x = true) (fs : xs.all flatV = true) (h : Q (.bl (inV x xs)) H) : rIn K false x (.ref a) H Q := ⟨a, xs, rfl, .inl s, fx, fs, h⟩
theorem w_ninL {x : V} {a : Addr} {xs : List V} (s : SqL K H a xs) (fx : flatV x = true) (fs : xs.all flatV = true) (h : Q (.bl (!inV x xs)) H) : rIn K true x (.ref a) H Q := ⟨a, xs, rfl, .inl s, fx, fs, h⟩
theorem inV_two (z a b : Str) : inV (.str z) [.str a, .str b] = (decide (z = a) || decide (z = b)) := by
  have h1 : ∀ u : Str, (u == z) = decide (z = u) := fun u => by
    by_cases h : z = u
    · subst h
      simp
    · rw [decide_eq_false h]
      exact beq_eq_false_iff_ne.mpr fun q => h q.symm
  simp only [inV, List.any_cons, List.any_nil, eqV, h1, Bool.or_false]
theorem w_all {a : Addr} {bs : List Bool} (s : SqL K H a (bs.map V.bl)) (h : Q (.bl (bs.all id)) H) : rAll K [.ref a] H Q := ⟨a, bs, rfl, s, h⟩
theorem w_any {a : Addr} {bs : List Bool} (s : SqL K H a (bs.map V.bl)) (h : Q (.bl (bs.any id)) H) : rAny K [.ref a] H Q := ⟨a, bs, rfl, s, h⟩
theorem w_sum {a : Addr} {ns : List Int} (s : SqL K H a (ns.map V.int)) (h : Q (.int ns.sum) H) : rSum K [.ref a] H Q := ⟨a, ns, rfl, s, h⟩
theorem walk_zipT {a b : Addr} {xs ys : List V} {m : Nat} (hm : m = min xs.length ys.length) : Walk (RZ.ItzT K a b) m (fun H => SqT K H a xs ∧ SqT K H b ys) (YPair (fun i => xs[i]?) (fun i => ys[i]?)) := by
  subst hm
  refine ⟨fun i _ hi q => ?_, fun _ q => ⟨xs, ys, q.1, q.2, by omega⟩, fun i H v H' _ q y => ?_⟩
  · have h1 : i < xs.length := by omega
    have h2 : i < ys.length := by omega
    exact ⟨xs, ys, xs[i], ys[i], q.1, q.2, by simp [h1], by simp [h2]⟩
  · obtain ⟨T, x, z, h1, h2, h3, h4, h5⟩ := y
    exact ⟨T, x, z, h1, h2, h3, h4 xs q.1, h5 ys q.2⟩
theorem w_zipA {ta : TA} {R : It → Hp → Prop} (h : ta σ H fun vs H1 => ∃ a b xs ys, vs = [.ref a, .ref b] ∧ ((SqL K H1 a xs ∧ SqL K H1 b ys ∧ R (Itz K a b) H1) ∨ (SqT K H1 a xs ∧ SqT K H1 b ys ∧ R (RZ.ItzT K a b) H1))) : RZ.iZipA K ta σ H R := h
end
theorem shaped_mem {ds : List PyData} {d : PyData} (h : SeqAt.shaped (.tuple ds) = true) (hd : d ∈ ds) : SeqAt.shaped d = true := by
  have h1 : ∀ l : List PyData, PyData.canLayAll0 l = true → d ∈ l → d.canLay0 = true := by
    intro l
    induction l with
    | nil => intro _ h; cases h
    | cons x r ih =>
      intro h m
      simp only [PyData.canLayAll0, Bool.and_eq_true] at h
      rcases List.mem_cons.mp m with rfl | m
      · exact h.1
      · exact ih h.2 m
  have h2 : ∀ l : List PyData, d ∈ l → d.depth ≤ PyData.depthAll l := by
    intro l
    induction l with
    | nil => intro h; cases h
    | cons x r ih =>
      intro m
      simp only [PyData.depthAll]
      rcases List.mem_cons.mp m with rfl | m
      · omega
      · have := ih m
        omega
  have a := SeqAt.canLay_of_shaped h
  have b := SeqAt.depth_of_shaped h
  simp only [PyData.canLay0] at a
  simp only [PyData.depth] at b
  have c := h2 ds hd
  have e : decide (d.depth ≤ 64) = true := decide_eq_true (by omega)
  simp only [SeqAt.shaped, h1 ds a hd, e, Bool.and_self]
/-- a def without any promise -/
theorem Ok.bot {P : Program} {w : World} {K : PySem.W.Frag} {mg : Str → Option Value} {base : Heap} {x : Str} {st : Stmt} {ps : List Str} {k : Nat} (G : mg x = some (.ref (He.ga K x))) (F : FnAt K x st) (b : BindAll x st ps) : Ok P w K mg base k x ps (fun _ _ _ _ => False) := by
  obtain ⟨fd, F⟩ := F
  have e : fdAt K (He.ga K x) = some fd := by
    obtain ⟨oc, od, dV, kV, doc, pm, an, cdv, ct, osl, rfl, lk, _⟩ := F.ex
    unfold fdAt
    rw [lk]
  exact ⟨G, F.kp, fd, e, F.bindsA b, ⟨fun _ _ _ _ h => h.elim, fun _ _ _ _ _ _ _ _ _ _ _ _ _ h => h.elim⟩⟩
end RG
/-! ### data of a fit size -/
namespace RG
open PySem PySem.Spec PyProof.Rows L2
mutual
/-- no list or tuple within is longer than a thousand -/
def narrow : PyData → Bool
  | .tuple xs => decide (xs.length ≤ 1000) && narrowAll xs
  | .list xs => decide (xs.length ≤ 1000) && narrowAll xs
  | .none => true
  | .bool _ => true
  | .int _ => true
  | .str _ => true
  | .dict _ => true
def narrowAll : List PyData → Bool
  | [] => true
  | x :: xs => narrow x && narrowAll xs
end
theorem narrowAll_mem : ∀ {l : List PyData} {d : PyData}, narrowAll l = true → d ∈ l → narrow d = true
  | [], _, _, h => by cases h
  | x :: r, d, h, m => by
    simp only [narrowAll, Bool.and_eq_true] at h
    rcases List.mem_cons.mp m with rfl | m
    · exact h.1
    · exact narrowAll_mem h.2 m
def okD (d : PyData) : Bool := SeqAt.shaped d && narrow d
theorem okD_sh {d : PyData} (h : okD d = true) : SeqAt.shaped d = true := (Bool.and_eq_true_iff.mp h).1
theorem okD_mem {ds : List PyData} {d : PyData} (h : okD (.tuple ds) = true) (m : d ∈ ds) : okD d = true := by
  obtain ⟨a, b⟩ := Bool.and_eq_true_iff.mp h
  simp only [narrow, Bool.and_eq_true] at b
  exact Bool.and_eq_true_iff.mpr ⟨shaped_mem a m, narrowAll_mem b.2 m⟩
theorem okD_len {ds : List PyData} (h : okD (.tuple ds) = true) : ds.length ≤ 1000 := by
  obtain ⟨a, b⟩ := Bool.and_eq_true_iff.mp h
  simp only [narrow, Bool.and_eq_true, decide_eq_true_eq] at b
  exact b.1
theorem not_tup {d : PyData} (h : ¬ isTupD d = true) : isTupD d = false := by simpa using h
theorem is_tup {d : PyData} (h : isTupD d = true) : ∃ ds, d = .tuple ds := by
  cases d <;> first | exact ⟨_, rfl⟩ | cases h
theorem is_str {d : PyData} (h : isStrD d = true) : ∃ z, d = .str z := by
  cases d <;> first | exact ⟨_, rfl⟩ | cases h
end RG
/-! ### truths joined -/
namespace RG
open PySem PySem.Spec PyProof.Rows L2
/-- it tells b and leaves what stood -/
def EvB (te : TE) (σ : L2.St) (H : Hp) (b : Bool) : Prop := ∀ Q : VK, (∀ H', Same H H' → Q (.bl b) H') → te σ H Q
def EvT (tt : TT) (σ : L2.St) (H : Hp) (b : Bool) : Prop := ∀ Q : Bool → Hp → Prop, (∀ H', Same H H' → Q b H') → tt σ H Q
section
variable {σ : L2.St} {H : Hp} {ta tb te : TE} {tA tC' : TT} {a b : Bool}
theorem evb_use {Q : VK} (h : EvB te σ H b) (k : ∀ H', Same H H' → Q (.bl b) H') : te σ H Q := h Q k
theorem evt_use {Q : Bool → Hp → Prop} (h : EvT tA σ H b) (k : ∀ H', Same H H' → Q b H') : tA σ H Q := h Q k
theorem evb_and (h1 : EvB ta σ H a) (h2 : a = true → ∀ H', Same H H' → EvB tb σ H' b) : EvB (tAndV ta tb) σ H (a && b) := fun Q q => h1 _ fun H1 s1 => ⟨a, rfl, by
  cases a with
  | true => exact if_t rfl (h2 rfl H1 s1 Q fun H2 s2 => q H2 (s1.trans s2))
  | false => exact if_f rfl (q H1 s1)⟩
theorem evb_or (h1 : EvB ta σ H a) (h2 : a = false → ∀ H', Same H H' → EvB tb σ H' b) : EvB (tOrV ta tb) σ H (a || b) := fun Q q => h1 _ fun H1 s1 => ⟨a, rfl, by
  cases a with
  | true => exact if_t rfl (q H1 s1)
  | false => exact if_f rfl (h2 rfl H1 s1 Q fun H2 s2 => q H2 (s1.trans s2))⟩
theorem evb_not (h1 : EvB ta σ H a) : EvB (tNotV ta) σ H (!a) := fun Q q => h1 _ fun H1 s1 => ⟨a, rfl, q H1 s1⟩
theorem evt_B (h1 : EvB ta σ H a) : EvT (tB ta) σ H a := fun Q q => h1 _ fun H1 s1 => ⟨a, rfl, q H1 s1⟩
theorem evt_test (h1 : EvB ta σ H a) : EvT (tTest ta) σ H a := fun Q q => h1 _ fun H1 s1 => ⟨a, rfl, q H1 s1⟩
theorem evt_and (h1 : EvT tA σ H a) (h2 : a = true → ∀ H', Same H H' → EvT tC' σ H' b) : EvT (tAnd tA tC') σ H (a && b) := fun Q q => h1 _ fun H1 s1 => by
  cases a with
  | true => exact if_t rfl (h2 rfl H1 s1 Q fun H2 s2 => q H2 (s1.trans s2))
  | false => exact if_f rfl (q H1 s1)
theorem evt_or (h1 : EvT tA σ H a) (h2 : a = false → ∀ H', Same H H' → EvT tC' σ H' b) : EvT (tOr tA tC') σ H (a || b) := fun Q q => h1 _ fun H1 s1 => by
  cases a with
  | true => exact if_t rfl (q H1 s1)
  | false => exact if_f rfl (h2 rfl H1 s1 Q fun H2 s2 => q H2 (s1.trans s2))
theorem evt_not (h1 : EvT tA σ H a) : EvT (tNot tA) σ H (!a) := fun Q q => h1 _ fun H1 s1 => q H1 s1
end
end RG
/-! ### comprehensions of data -/
namespace RG
open PySem PySem.Spec PyProof.Rows L2
mutual
/-- a change of a list does not bear on data without lists -/
theorem dp_mut {K : PySem.W.Frag} {H : Hp} {p : Addr} {o : HO} {ys : List V} (hp : H p = some (.lst ys)) : ∀ {v : V} {d : PyData}, imm d = true → Dp K H v d → Dp K (upd H p o) v d
  | _, _, _, .non => .non
  | _, _, _, .bl b => .bl b
  | _, _, _, .int i => .int i
  | _, _, _, .str x => .str x
  | _, _, i, .lst h a => by simp [imm] at i
  | _, _, i, .tup h a => .tup (tup_mut hp h) (dpAll_mut hp (by simpa [imm] using i) a)
theorem dpAll_mut {K : PySem.W.Frag} {H : Hp} {p : Addr} {o : HO} {ys : List V} (hp : H p = some (.lst ys)) : ∀ {vs : List V} {ds : List PyData}, immAll ds = true → DpAll K H vs ds → DpAll K (upd H p o) vs ds
  | _, _, _, .nil => .nil
  | _, _, i, .cons a b => by
    simp [immAll] at i
    exact .cons (dp_mut hp i.1 a) (dpAll_mut hp i.2 b)
end
theorem immAll_app : ∀ {a b : List PyData}, immAll (a ++ b) = (immAll a && immAll b)
  | [], b => by simp [immAll]
  | x :: a, b => by
    simp only [List.cons_append, immAll, immAll_app (a := a), Bool.and_assoc]
theorem immAll_mem : ∀ {l : List PyData}, (∀ d ∈ l, imm d = true) → immAll l = true
  | [], _ => rfl
  | x :: l, h => by
    have h2 : immAll l = true := immAll_mem fun d hd => h d (List.mem_cons_of_mem _ hd)
    simp only [immAll, h x (by simp), h2, Bool.and_self]
theorem immAll_get : ∀ {l : List PyData} {d : PyData}, immAll l = true → d ∈ l → imm d = true
  | [], _, _, h => by cases h
  | x :: l, d, h, m => by
    simp only [immAll, Bool.and_eq_true] at h
    rcases List.mem_cons.mp m with rfl | m
    · exact h.1
    · exact immAll_get h.2 m
def IvD (K : PySem.W.Frag) (H : Hp) (l : List (List PyData)) (D : Addr) (i : Nat) (acc : List V) (H' : Hp) : Prop := Same H H' ∧ DpAll K H' acc (l.take i).flatten
section
variable {K : PySem.W.Frag} {σ : L2.St} {H : Hp} {te : TE} {Q : VK} {g : TG} {tt : TT} {vs : List Nat} {J : It} {n : Nat} {G : Hp → Prop} {Y : Nat → Hp → V → Hp → Prop}
theorem take_flatD {α : Type} {l : List (List α)} {i : Nat} {x : List α} (h : l[i]? = some x) : (l.take (i + 1)).flatten = (l.take i).flatten ++ x := by
  rw [List.take_add_one, h]
  simp
theorem immAll_take {l : List (List PyData)} (h : immAll l.flatten = true) (i : Nat) : immAll (l.take i).flatten = true := by
  have e : l.flatten = (l.take i).flatten ++ (l.drop i).flatten := by
    rw [← List.flatten_append, List.take_append_drop]
  rw [e, immAll_app, Bool.and_eq_true] at h
  exact h.1
theorem lc_data (w : Walk J n G Y) (hn : n ≤ 50000) (l : List (List PyData)) (hl : l.length = n) (hG : ∀ H', Same H H' → G H')
    (hs : ∀ D i acc x H' H'', H D = none → i < n → acc.length ≤ i → H' D = some (.lst acc) → IvD K H l D i acc H' → Y i H' x H'' → g x (wipe σ vs) H'' fun σ2 H2 => wipe σ2 vs = wipe σ vs ∧ tt σ2 H2 fun b H3 =>
      if b = true then te σ2 H3 fun y H4 => LcNx (IvD K H l D) D i y H4 else LcSk (IvD K H l D) D i H3)
    (hd : ∀ D acc H', H D = none → Same H H' → H' D = some (.lst acc) → DpAll K H' acc l.flatten → Q (.ref D) H') : LcGoal J g tt te vs σ H Q := by
  refine lc_go w hn (IvD K H l) (fun D hD => ⟨Same.new hD, .nil⟩) (fun D i acc H' hD _ iv => hG H' iv.1) hs fun D acc H' hD hH' _ iv => hd D acc H' hD iv.1 hH' ?_
  have h := iv.2
  rw [List.take_of_length_le (by omega)] at h
  exact h
theorem lcd_nx {l : List (List PyData)} {A : Addr} {i : Nat} {y : V} {d : PyData} {acc : List V} {H' H4 : Hp} (hD : H A = none) (hi : i < 90000) (hl : acc.length ≤ i) (h : H' A = some (.lst acc)) (iv : IvD K H l A i acc H') (s : Same H' H4) (hy : Dp K H4 y d) (im : immAll l.flatten = true) (e : l[i]? = some [d]) : LcNx (IvD K H l A) A i y H4 := by
  have hi1 := immAll_take im (i + 1)
  rw [take_flatD e] at hi1
  refine lc_nx hi hl (s _ _ h) ⟨fun b o q => ?_, ?_⟩
  · rw [upd_ne (ne_of_none q hD)]
    exact s _ _ (iv.1 _ _ q)
  · rw [take_flatD e]
    exact dpAll_mut (s _ _ h) hi1 (dpAll_app (dps_s s iv.2) (.cons hy .nil))
theorem lcd_sk {l : List (List PyData)} {A : Addr} {i : Nat} {acc : List V} {H' H4 : Hp} (hl : acc.length ≤ i) (h : H' A = some (.lst acc)) (iv : IvD K H l A i acc H') (s : Same H' H4) (e : l[i]? = some []) : LcSk (IvD K H l A) A i H4 :=
  lc_sk hl (s _ _ h) ⟨iv.1.trans s, by
    rw [take_flatD e, List.append_nil]
    exact dps_s s iv.2⟩
theorem flat_oneD {α β : Type} (f : α → β) : ∀ l : List α, (l.map fun x => [f x]).flatten = l.map f
  | [] => rfl
  | x :: r => by
    simp only [List.map_cons, List.flatten_cons, flat_oneD f r]
    rfl
theorem flat_ifD {α β : Type} (p : α → Bool) (f : α → β) : ∀ l : List α, (l.map fun x => if p x = true then [f x] else []).flatten = (l.filter p).map f
  | [] => rfl
  | x :: r => by
    simp only [List.map_cons, List.flatten_cons, flat_ifD p f r, List.filter_cons]
    split <;> rfl
/-- with dice: what the turns gave is some data that R tells of -/
def IvR (K : PySem.W.Frag) (a : Addr) (H : Hp) (R : Nat → List PyData → Prop) (D : Addr) (i : Nat) (acc : List V) (H' : Hp) : Prop := But a H H' ∧ D ≠ a ∧ ∃ ds, DpAll K H' acc ds ∧ immAll ds = true ∧ R i ds
theorem lc_dice {a : Addr} (w : Walk J n G Y) (hn : n ≤ 50000) (R : Nat → List PyData → Prop) (hd0 : Dice H a) (h0 : R 0 []) (hG : ∀ H', But a H H' → G H')
    (hs : ∀ D i acc x H' H'', H D = none → i < n → acc.length ≤ i → H' D = some (.lst acc) → IvR K a H R D i acc H' → Y i H' x H'' → g x (wipe σ vs) H'' fun σ2 H2 => wipe σ2 vs = wipe σ vs ∧ tt σ2 H2 fun b H3 =>
      if b = true then te σ2 H3 fun y H4 => LcNx (IvR K a H R D) D i y H4 else LcSk (IvR K a H R D) D i H3)
    (hd : ∀ D acc ds H', H D = none → But a H H' → D ≠ a → H' D = some (.lst acc) → DpAll K H' acc ds → immAll ds = true → R n ds → Q (.ref D) H') : LcGoal J g tt te vs σ H Q := by
  refine lc_go w hn (IvR K a H R) (fun D hD => ⟨But.of hd0 (Same.new hD), hd0.ne hD, [], .nil, rfl, h0⟩) (fun D i acc H' hD _ iv => hG H' iv.1) hs fun D acc H' hD hH' _ iv => ?_
  obtain ⟨b, nD, ds, h1, h2, h3⟩ := iv
  exact hd D acc ds H' hD b nD hH' h1 h2 h3
theorem lcr_nx {a : Addr} {R : Nat → List PyData → Prop} {A : Addr} {i : Nat} {y : V} {d : PyData} {ds : List PyData} {acc : List V} {H' H4 : Hp} (hD : H A = none) (hi : i < 90000) (hl : acc.length ≤ i) (h : H' A = some (.lst acc)) (b : But a H H') (nA : A ≠ a) (hds : DpAll K H' acc ds) (im : immAll ds = true)
    (s : But a H' H4) (hy : Dp K H4 y d) (imd : imm d = true) (r : R (i + 1) (ds ++ [d])) : LcNx (IvR K a H R A) A i y H4 := by
  have h4 := s.kp _ _ h nA
  have i2 : immAll (ds ++ [d]) = true := by
    rw [immAll_app, im]
    simp [immAll, imd]
  exact lc_nx hi hl h4 ⟨(b.trans s).mut hD nA, nA, ds ++ [d], dpAll_mut h4 i2 (dpAll_app (s.dpAll im hds) (.cons hy .nil)), i2, r⟩
theorem lcr_sk {a : Addr} {R : Nat → List PyData → Prop} {A : Addr} {i : Nat} {ds : List PyData} {acc : List V} {H' H4 : Hp} (hl : acc.length ≤ i) (h : H' A = some (.lst acc)) (b : But a H H') (nA : A ≠ a) (hds : DpAll K H' acc ds) (im : immAll ds = true)
    (s : But a H' H4) (r : R (i + 1) ds) : LcSk (IvR K a H R A) A i H4 := lc_sk hl (s.kp _ _ h nA) ⟨b.trans s, nA, ds, s.dpAll im hds, im, r⟩
end
end RG
namespace RG
open PySem PySem.Spec PyProof.Rows L2
theorem hu65 {k : Nat} {A : Around} (hr : Room k A) : A.units + 65 < cLine := by
  have := hr.un
  omega
end RG
/-! ### enumerate(t), t a tuple -/
namespace RG
open PySem PySem.Spec PyProof.Rows L2
set_option maxHeartbeats 1000000 in
theorem enum_new_tup (tp : Addr) (vals : Array Value) :
    Meets (Builtin.«enumerate.__new__» ⟨[.type "enumerate", .ref tp], []⟩) (fun _ R s => s.heap.IsTuple tp vals ∧
      R (.ok (.ret (.ref (s.heap.push { cls := .type "tuple_iterator", data := .fields #[.ref tp, .int 0 0] }).objs.size)))
        { s with heap := (s.heap.push { cls := .type "tuple_iterator", data := .fields #[.ref tp, .int 0 0] }).push { cls := .type "enumerate", data := .fields #[.none, .bool false, .ref s.heap.objs.size, rawInt 0, .none, .none] } }) :=
  .of_wp fun pg wd ar R s hh => by
    obtain ⟨hp, g, d, tk, os⟩ := s
    obtain ⟨ht, hR⟩ := hh
    have hsb := sub_enumerate
    have go : ∀ {A' : Around} {E : Value → Shared → Prop} {Q : Value → Shared → Prop}, Q (.ref hp.objs.size) ⟨hp.push { cls := .type "tuple_iterator", data := .fields #[.ref tp, .int 0 0] }, g, d, tk, os⟩ → wpAny (model pg wd) A' (pyIter (.ref tp)) Q E ⟨hp, g, d, tk, os⟩ :=
      fun k => wpAny_pyIter_tuple (s := ⟨hp, g, d, tk, os⟩) ht k
    wp_walk using go
    refine wpAny_stack_any fun st => wpAny_pure ?_
    split
    · rename_i c _ _ _ _ _
      cases (c == Value.type "enumerate")
      · wp_walk using go
        exact ⟨_, rfl, hR⟩
      · wp_walk using go
        exact ⟨_, rfl, hR⟩
    · wp_walk using go
      exact ⟨_, rfl, hR⟩
theorem enum_call_tup {pg : Program} {wd : World} {ar : Around} {E : Value → Shared → Prop} {s : Shared} {tp : Addr} {vals : Array Value} {Q : Value → Shared → Prop} (ht : s.heap.IsTuple tp vals)
    (hq : ∀ h', IsEnum h' (s.heap.objs.size + 1) s.heap.objs.size 0 .none → h'.IsTupleIter s.heap.objs.size tp 0 →
      (∀ b o, s.heap.get? b = some o → h'.get? b = some o) → Q (.ref (s.heap.objs.size + 1)) { s with heap := h' }) :
    wpAny (model pg wd) ar (call (.type "enumerate") [.ref tp]) Q E s := by
  refine callType_new F.called_enumerate (by decide) (F.typeCall_enumerate_1 _) (F.newCall_enumerate_1 _) (fun ob => F.args_object_init_2 ob _) F.entry_enumerate_new (enum_new_tup tp vals) ⟨ht, ?_⟩
  have sz1 : (s.heap.push { cls := .type "tuple_iterator", data := .fields #[.ref tp, .int 0 0] }).objs.size = s.heap.objs.size + 1 := Heap.size_push ..
  show _ ∧ _
  rw [sz1]
  have en : IsEnum ((s.heap.push { cls := .type "tuple_iterator", data := .fields #[.ref tp, .int 0 0] }).push { cls := .type "enumerate", data := .fields #[.none, .bool false, .ref s.heap.objs.size, rawInt 0, .none, .none] }) (s.heap.objs.size + 1) s.heap.objs.size 0 .none := by
    have z := Heap.get?_push_size (s.heap.push { cls := .type "tuple_iterator", data := .fields #[.ref tp, .int 0 0] }) (o := { cls := .type "enumerate", data := .fields #[.none, .bool false, .ref s.heap.objs.size, rawInt 0, .none, .none] }) rfl
    rw [sz1] at z
    exact z
  exact ⟨⟨_, en, rfl⟩, hq _ en ⟨_, Heap.get?_push_of_some _ (Heap.get?_push_size _ rfl), rfl, rfl⟩ fun b o x => Heap.get?_push_of_some _ (Heap.get?_push_of_some _ x)⟩
/-- the tuple at a, each item in a new pair with its place -/
def IteT (K : PySem.W.Frag) (a : Addr) : It where
  go := fun i H => ∃ (xs : List V) (x : V), SqT K H a xs ∧ xs[i]? = some x
  yld := fun i H v H' => ∃ T x, v = .ref T ∧ H T = none ∧ H' = upd H T (.tup [.int (i : Nat), x]) ∧ ∀ xs, SqT K H a xs → xs[i]? = some x
  stop := fun i H => ∃ xs : List V, SqT K H a xs ∧ xs.length = i
theorem isTuple_of {h : Heap} {a : Addr} {its : Array Value} (p : IsTup h a its) : h.IsTuple a its := by
  obtain ⟨o, h1, h2, n, h3⟩ := p
  exact ⟨o, h1, h2, n, h3⟩
theorem turn_enumT {P : Program} {w : World} {K : PySem.W.Frag} {elts : List Expr} {kk : Nat} {tpos : Pos} (a en it : Addr) :
    Turn P w K (.Tuple elts kk tpos) (IteT K a) [en, it] en (fun i h => (∃ old, IsEnum h en it ((i : Nat) : Int) old) ∧ h.IsTupleIter it a i ∧ en ≠ it) where
  mem := by simp
  obj := fun i h st b hb => by
    obtain ⟨⟨old, h1⟩, ⟨o, ho, _, hd⟩, _⟩ := st
    rcases (by simpa using hb : b = en ∨ b = it) with z | z
    · rw [z]
      exact ⟨_, h1, fun v q => nomatch q⟩
    · rw [z]
      exact ⟨o, ho, fun v q => by rw [hd] at q; cases q⟩
  keep := fun i h h' st k => by
    obtain ⟨⟨old, h1⟩, h2, h3⟩ := st
    exact ⟨⟨old, k en (by simp) _ h1⟩, h2.at fun o q => k it (by simp) o q, h3⟩
  item := by
    intro X eP ew eK hcalm i pins s σ H E I fpk st hgo
    subst eP ew eK
    obtain ⟨⟨old, h1⟩, h2, hne⟩ := st
    obtain ⟨xs, x, hq, hx⟩ := hgo
    obtain ⟨its, rv, p, hz⟩ := I.tuple hq
    obtain ⟨u, hu, ru⟩ := rv.get hx
    have l1 : en < s.heap.objs.size := Heap.lt_size h1
    have l2 : it < s.heap.objs.size := by
      obtain ⟨_, q, _⟩ := h2
      exact Heap.lt_size q
    have pt := isTuple_of p
    have nai : a ≠ it := fun z => by
      obtain ⟨o1, q1, q2, _⟩ := h2
      obtain ⟨o2, r1, r2, _⟩ := pt
      rw [z, q1] at r1
      cases r1
      rw [q2] at r2
      exact absurd r2 (by decide)
    have nae : a ≠ en := fun z => by
      obtain ⟨o2, r1, r2, _⟩ := pt
      rw [z, h1] at r1
      cases r1
      exact absurd (show Value.type "enumerate" = Value.type "tuple" from r2) (by decide)
    have dr := Draws.tuple (prog := X.prog) (w := X.w) (A := X.A.in1) (show X.A.in1.handled = none from I.ok.hd hcalm) it a nai its.toArray
    have hlen : i < its.toArray.size := by
      have h3 := (List.getElem?_eq_some_iff.mp hu).1
      simpa using h3
    refine wpAny_pyNext_enum_itemD dr h1 ⟨h2, pt⟩ hlen hne (by simp; exact ⟨hne, nae.symm⟩) fun y h' tk py ho st' hT hsz hk => ?_
    have ey : y = u := by
      have e2 : its.toArray[i]? = some u := by simpa using hu
      exact Option.some.inj (py.symm.trans e2)
    subst ey
    refine ⟨_, rfl, wpAny_letOwnedTupleGo_enum (s := { s with heap := h', toks := tk + 1 }) ho fun h'' he' sb => ?_⟩
    have hT2 : h''.get? s.heap.objs.size = some { cls := .type "tuple", data := .seq #[.int i tk, y] } := (sb.2 _ (Nat.ne_of_gt l1)).trans hT
    have nw : ObjOk X.prog X.w (upd H s.heap.objs.size (.tup [.int (i : Nat), x])) h'' s.heap.objs.size (.tup [.int (i : Nat), x]) :=
      ⟨by show 2 ≤ sizeLine; decide, [.int i tk, y], .cons ⟨_, rfl⟩ (.cons ru .nil), ⟨_, hT2, rfl, _, rfl⟩⟩
    have J1 : Inv X pins σ (upd H s.heap.objs.size (.tup [.int (i : Nat), x])) { s with heap := h'', toks := tk + 1 } :=
      I.turnedNew (ch := [en, it]) (fun b ob hb q => (sb.2 b (fun z => hb (by simp [z]))).trans (hk b ob (fun z => hb (by simp [z])) (fun z => hb (by simp [z])) q)) fpk (Nat.le_refl _) nw
    refine ⟨.ref s.heap.objs.size, _, J1, rfl, ⟨_, x, rfl, I.hok.fresh (Nat.le_refl _), rfl, fun ys hy => by rw [I.tuple_inj hy hq]; exact hx⟩, ⟨⟨y, ?_⟩, st'.1.at fun o q => (sb.2 it (Ne.symm hne)).trans q, hne⟩, fun b hb => ?_⟩
    · have e1 : ((i + 1 : Nat) : Int) = (i : Int) + 1 := by omega
      rw [e1]
      exact he'
    · have hb' : b < s.heap.objs.size := by
        rcases (by simpa using hb : b = en ∨ b = it) with z | z
        · rw [z]
          exact l1
        · rw [z]
          exact l2
      rw [upd_ne (Nat.ne_of_lt hb')]
      exact (fpk b hb).1
  done := by
    intro X eP ew eK hcalm i pins s σ H E I fpk st hst
    subst eP ew eK
    obtain ⟨⟨old, h1⟩, h2, hne⟩ := st
    obtain ⟨xs, hq, hx⟩ := hst
    obtain ⟨its, rv, p, hz⟩ := I.tuple hq
    obtain ⟨f0, f1, f2, f3, f4, f5⟩ := fpk it (by simp)
    have hlen := rv.length
    have pt := isTuple_of p
    have nai : a ≠ it := fun z => by
      obtain ⟨o1, q1, q2, _⟩ := h2
      obtain ⟨o2, r1, r2, _⟩ := pt
      rw [z, q1] at r1
      cases r1
      rw [q2] at r2
      exact absurd r2 (by decide)
    have dr := Draws.tuple (prog := X.prog) (w := X.w) (A := X.A.in1) (show X.A.in1.handled = none from I.ok.hd hcalm) it a nai its.toArray
    have ei : i = its.toArray.size := by
      simp
      omega
    rw [ei] at h2
    exact wpAny_pyNext_enum_endD dr h1 ⟨h2, pt⟩ fun h' eb => ⟨rfl, I.turned (t' := s.toks) (fun b o hb q => eb b o hb q) f0 f1 f3 f4 f5⟩
  self := fun A i s Q E st h => by
    obtain ⟨⟨_, h1⟩, _⟩ := st
    exact wpAny_pyIter_enum h1 h
def iEnumT (K : PySem.W.Frag) (ta : TA) : TI := fun σ H R => ta σ H fun vs H1 => ∃ a xs, vs = [.ref a] ∧ SqT K H1 a xs ∧ R (IteT K a) H1
theorem pi_enumT {X : Cx} {e : Expr} {ta : TA} {p pos tpos : Pos} {elts : List Expr} {kk : Nat} (hg : Gl X "enumerate") (hm : X.mg "enumerate" = none) (ha : PA X [e] ta) (hs : starEach [e] X.env = [(false, eval e X.env)] := by rfl) :
    PI X (.Tuple elts kk tpos) (.Call (.Name "enumerate" p) [e] [] pos) (iEnumT X.K ta) := by
  refine ⟨fun pins s σ H R I hh => ?_⟩
  refine Call_ (ld_blt I hg hm boot_enumerate (PyProof.Rows.callWith_type1 (thn (ha.run pos pins s σ H _ I hh) fun us s1 ⟨vs, H1, I1, r1, q1⟩ => ?_) hs rfl))
  obtain ⟨a, xs, ex, hq, q⟩ := q1
  subst ex
  cases r1 with
  | cons r rr =>
    cases rr
    cases r
    obtain ⟨its, rv, p', hz⟩ := I1.tuple hq
    refine enum_call_tup (isTuple_of p') fun h' he hit hk => wpAny_pyIter_enum he ?_
    have I2 : Inv X pins σ H1 { s1 with heap := h' } := I1.kept (t' := s1.toks) hk
    refine ⟨s1.heap.objs.size + 1, [s1.heap.objs.size + 1, s1.heap.objs.size], _, _, H1, rfl, I2, turn_enumT a _ _, ⟨⟨.none, he⟩, hit, Nat.succ_ne_self _⟩, fun b hb => ?_, q⟩
    have hle : s1.heap.objs.size ≤ b := by
      rcases (by simpa using hb : b = s1.heap.objs.size + 1 ∨ b = s1.heap.objs.size) with z | z
      · rw [z]
        omega
      · rw [z]
        exact Nat.le_refl _
    exact I1.fpOk hle (I1.hok.fresh hle)
theorem walk_enumT {K : PySem.W.Frag} {a : Addr} {xs : List V} : Walk (IteT K a) xs.length (fun H => SqT K H a xs) (YPair (fun i => some (.int (i : Nat))) (fun i => xs[i]?)) := by
  refine ⟨fun i _ hi q => ⟨xs, xs[i], q, by simp [hi]⟩, fun _ q => ⟨xs, q, rfl⟩, fun i H v H' _ q y => ?_⟩
  obtain ⟨T, x, h1, h2, h3, h4⟩ := y
  exact ⟨T, .int (i : Nat), x, h1, h2, h3, rfl, h4 xs q⟩
theorem w_enumT {K : PySem.W.Frag} {σ : L2.St} {H : Hp} {ta : TA} {R : It → Hp → Prop} (h : ta σ H fun vs H1 => ∃ a xs, vs = [.ref a] ∧ SqT K H1 a xs ∧ R (IteT K a) H1) : iEnumT K ta σ H R := h
end RG
/-! ### slices and sums of tuples that are data -/
namespace RG
open PySem PySem.Spec PyProof.Rows L2
section
variable {K : PySem.W.Frag} {H : Hp} {Q : VK}
theorem dpAll_take : ∀ {vs : List V} {ds : List PyData} (n : Nat), DpAll K H vs ds → DpAll K H (vs.take n) (ds.take n)
  | _, _, 0, _ => by simpa using (DpAll.nil : DpAll K H [] [])
  | _, _, _ + 1, .nil => .nil
  | _, _, n + 1, .cons a b => .cons a (dpAll_take n b)
theorem dpAll_drop : ∀ {vs : List V} {ds : List PyData} (n : Nat), DpAll K H vs ds → DpAll K H (vs.drop n) (ds.drop n)
  | _, _, 0, h => h
  | _, _, _ + 1, .nil => .nil
  | _, _, n + 1, .cons _ b => dpAll_drop n b
/-- t[k:] -/
theorem w_slFrom {v : V} {ds : List PyData} {k : Nat} (hd : Dp K H v (.tuple ds)) (h : ∀ u H', Same H H' → Dp K H' u (.tuple (ds.drop k)) → Q u H') : rSlA K v (some (k : Nat)) none H Q := by
  obtain ⟨a, xs, rfl, hs, hx⟩ := dp_tuple hd
  have hl := dpAll_len hx
  have e1 : HT.sIx xs.length 0 (some ((k : Nat) : Int)) = min k xs.length := HT.sIx_nat _ 0 k
  have e2 : HT.sIx xs.length xs.length none = xs.length := HT.sIx_none _ _
  refine ⟨a, xs, rfl, hs, fun z => ?_, fun _ p np => ?_⟩
  · rw [e1] at z
    refine h _ H (Same.refl _) (.tup hs ?_)
    rcases Nat.eq_zero_or_pos k with k0 | k0
    · subst k0
      exact hx
    · have : xs = [] := List.eq_nil_of_length_eq_zero (by omega)
      subst this
      cases hx
      simpa using (DpAll.nil : DpAll K H [] [])
  · refine h _ _ (Same.new np) (.tup (tupOf upd_same) ?_)
    have e3 : cutV xs (some ((k : Nat) : Int)) none = xs.drop k := by
      unfold cutV
      rw [e1, e2]
      rcases Nat.le_total k xs.length with hk | hk
      · rw [Nat.min_eq_left hk]
        exact List.take_of_length_le (by simp)
      · rw [Nat.min_eq_right hk, List.drop_of_length_le hk, List.drop_of_length_le (Nat.le_refl _)]
        simp
    rw [e3]
    exact dps_s (Same.new np) (dpAll_drop k hx)
/-- t[:k] -/
theorem w_slTo {v : V} {ds : List PyData} {k : Nat} (hd : Dp K H v (.tuple ds)) (h : ∀ u H', Same H H' → Dp K H' u (.tuple (ds.take k)) → Q u H') : rSlA K v none (some (k : Nat)) H Q := by
  obtain ⟨a, xs, rfl, hs, hx⟩ := dp_tuple hd
  have hl := dpAll_len hx
  have e1 : HT.sIx xs.length 0 none = 0 := HT.sIx_none _ _
  have e2 : HT.sIx xs.length xs.length (some ((k : Nat) : Int)) = min k xs.length := HT.sIx_nat _ _ k
  refine ⟨a, xs, rfl, hs, fun z => ?_, fun _ p np => ?_⟩
  · rw [e2] at z
    refine h _ H (Same.refl _) (.tup hs ?_)
    rw [List.take_of_length_le (by omega)]
    exact hx
  · refine h _ _ (Same.new np) (.tup (tupOf upd_same) ?_)
    have e3 : cutV xs none (some ((k : Nat) : Int)) = xs.take k := by
      unfold cutV
      rw [e1, e2]
      show xs.take (min k xs.length - 0) = xs.take k
      rw [Nat.sub_zero, List.take_eq_take_iff]
      omega
    rw [e3]
    exact dps_s (Same.new np) (dpAll_take k hx)
/-- t + u -/
theorem w_catD {x y : V} {ds es : List PyData} (hx : Dp K H x (.tuple ds)) (hy : Dp K H y (.tuple es)) (z : ds.length + es.length ≤ 100000) (h : ∀ u H', Same H H' → Dp K H' u (.tuple (ds ++ es)) → Q u H') : rCatA K x y H Q := by
  obtain ⟨a, xs, rfl, ha, hxs⟩ := dp_tuple hx
  obtain ⟨b, ys, rfl, hb, hys⟩ := dp_tuple hy
  have l1 := dpAll_len hxs
  have l2 := dpAll_len hys
  refine ⟨a, b, xs, ys, rfl, rfl, ha, hb, sz (by omega), fun e => ?_, fun _ e => ?_, fun _ _ p np => ?_⟩
  · subst e
    cases hxs
    exact h _ H (Same.refl _) hy
  · subst e
    cases hys
    rw [List.append_nil] at h
    exact h _ H (Same.refl _) hx
  · exact h _ _ (Same.new np) (.tup (tupOf upd_same) (dps_s (Same.new np) (dpAll_app hxs hys)))
/-- xs[:k] of a list -/
theorem w_slLTo {a : Addr} {xs : List V} {k : Nat} (s : SqL K H a xs) (h : ∀ p, H p = none → Q (.ref p) (upd H p (.lst (xs.take k)))) : rSlL K (.ref a) none (some (k : Nat)) H Q := by
  refine ⟨a, xs, rfl, s, fun p np => ?_⟩
  have e1 : HT.sIx xs.length 0 none = 0 := HT.sIx_none _ _
  have e2 : HT.sIx xs.length xs.length (some ((k : Nat) : Int)) = min k xs.length := HT.sIx_nat _ _ k
  have e3 : cutV xs none (some ((k : Nat) : Int)) = xs.take k := by
    unfold cutV
    rw [e1, e2]
    show xs.take (min k xs.length - 0) = xs.take k
    rw [Nat.sub_zero, List.take_eq_take_iff]
    omega
  rw [e3]
  exact h p np
end
theorem rel_lookup {env : Env} {x : Str} : ∀ {ns : List (Str × NameKind)}, ns.lookup x = some .cell ∨ ns.lookup x = some .free → (ns.map fun (n, k) => if (k == NameKind.free && env.scope.kind == .function && env.kindOf n == some .cell) then (n, NameKind.cell) else (n, k)).lookup x = some .cell ∨ (ns.map fun (n, k) => if (k == NameKind.free && env.scope.kind == .function && env.kindOf n == some .cell) then (n, NameKind.cell) else (n, k)).lookup x = some .free
  | [], h => by simp at h
  | (n, k) :: r, h => by
    have ih := @rel_lookup env x r
    rw [List.map_cons]
    cases hx : x == n with
    | true =>
      simp only [List.lookup_cons, hx] at h
      dsimp only
      split
      · left
        simp only [List.lookup_cons, hx]
      · simp only [List.lookup_cons, hx]
        exact h
    | false =>
      simp only [List.lookup_cons, hx] at h
      dsimp only
      split <;> simp only [List.lookup_cons, hx] <;> exact ih h
/-- a block in a block -/
theorem blkOk_in {N : List Str} {sc scope : Scope} {own : List (Str × Nat)} {cl : List (Str × Addr)} {C : Addr} {env : Env} (h : blkC N sc scope own = true) : BlkOk N (compEnvC sc cl C env).scope scope own := by
  have k := blkOk_by h
  exact ⟨k.kind, k.uniq, k.ix, fun y hy e => rel_lookup (k.free y hy e), k.own⟩

end RG

namespace RG
open PySem PySem.Spec PyProof.Rows L2
theorem back_adjust (n : Nat) : Builtin.Slice.sliceAdjust none none (-1) (n : Int) = ((n : Int) - 1, -1) := rfl
theorem back_places (n : Nat) : Builtin.Slice.slicePlaces ((n : Int) - 1) (-1) (-1) = n := by
  unfold Builtin.Slice.slicePlaces
  rw [if_neg (by decide)]
  split
  · have : ((n : Int) - 1 - -1 - 1) / (- -1) = (n : Int) - 1 := by
      rw [show (- -1 : Int) = 1 from rfl, Int.ediv_one]
      omega
    omega
  · omega
theorem fm_congr {α β : Type} {f g : α → Option β} : ∀ {l : List α}, (∀ m ∈ l, f m = g m) → l.filterMap f = l.filterMap g
  | [], _ => rfl
  | a :: l, h => by
    rw [List.filterMap_cons, List.filterMap_cons, h a (by simp), fm_congr fun m hm => h m (by simp [hm])]
theorem back_pick (xs : Array Value) : ((List.range xs.size).filterMap fun (m : Nat) => xs[((xs.size : Int) - 1 + (m : Int) * (-1)).toNat]?).toArray = xs.toList.reverse.toArray := by
  have e : ∀ m ∈ List.range xs.size, xs[((xs.size : Int) - 1 + (m : Int) * (-1)).toNat]? = xs.toList.reverse[m]? := by
    intro m hm
    have hm := List.mem_range.mp hm
    rw [List.getElem?_reverse (by simpa using hm), show ((xs.size : Int) - 1 + (m : Int) * (-1)).toNat = xs.size - 1 - m by omega]
    simp
  rw [fm_congr e]
  congr 1
  have : ∀ l : List Value, (List.range l.length).filterMap (fun m => l[m]?) = l := by
    intro l
    induction l with
    | nil => rfl
    | cons a l ih =>
      rw [List.length_cons, List.range_succ_eq_map, List.filterMap_cons]
      simp only [List.getElem?_cons_zero, List.filterMap_map]
      congr 1
  have h := this xs.toList.reverse
  rw [List.length_reverse, Array.length_toList] at h
  exact h
section
variable {prog : Program} {w : World} {A : Around} {E : Value → Shared → Prop} {s : Shared}
open HT in
theorem back_applied {sl : Addr} {vl vu vs : Value} {n : Nat} {Q : Int × Int × Nat → Shared → Prop} (hs : s.heap.IsSliceOf sl vl vu vs) (pl : IsPart vl none) (pu : IsPart vu none) (ps : IsPart vs (some (-1)))
    (h : Q ((n : Int) - 1, -1, n) s) : wpAny (model prog w) A (Builtin.Slice.sliceApplied (.ref sl) (pure (n : Int))) Q E s := by
  obtain ⟨os, hoo, hcc, hdd⟩ := id hs
  unfold Builtin.Slice.sliceApplied Builtin.Slice.sliceFields
  refine wpAny_bind (wpAny_bind (wpAny_field hoo hdd (x := vl) rfl (wpAny_bind (wpAny_field hoo hdd (x := vu) rfl (wpAny_bind (wpAny_field hoo hdd (x := vs) rfl (wpAny_pure ?_)))))))
  refine wpAny_bind (slicePart_ ps ?_)
  show wpAny _ _ (if ((-1 : Int) == 0) = true then _ else _) _ _ s
  rw [if_neg (by decide)]
  refine wpAny_bind (slicePart_ pl (wpAny_bind (slicePart_ pu (wpAny_bind (wpAny_pure ?_)))))
  show wpAny _ _ (pure ((n : Int) - 1, (-1 : Int), Builtin.Slice.slicePlaces ((n : Int) - 1) (-1) (-1))) _ _ s
  rw [back_places]
  exact wpAny_pure h
open HT in
theorem back_tuple {t sl : Addr} {items : Array Value} {vl vu vs : Value} {Q : Value → Shared → Prop} (htp : IsTup s.heap t items) (hs : s.heap.IsSliceOf sl vl vu vs) (pl : IsPart vl none) (pu : IsPart vu none) (ps : IsPart vs (some (-1)))
    (h : Q (.ref s.heap.objs.size) { s with heap := s.heap.push { cls := .type "tuple", data := .seq items.toList.reverse.toArray } })
    (hle : items.size ≤ sizeLine) : wpAny (model prog w) A (getItem (.ref t) (.ref sl)) Q E s := by
  have hnew : sizeOk (.seq items.toList.reverse.toArray) := by
    show items.toList.reverse.toArray.size ≤ sizeLine
    rw [List.size_toArray, List.length_reverse, Array.length_toList]
    exact hle
  obtain ⟨os, hoo, hcc, hdd⟩ := id hs
  have hTy : s.TypeIs (.ref sl) "slice" := ⟨os, hoo, hcc⟩
  unfold getItem
  try with_reducible refine wpAny_holding ?_
  first | refine wpAny_bind (wpAny_pure ?_) | skip
  refine wpAny_bind (wpAny_sequenceKey htp.typeIs (by decide) ?_)
  refine wpAny_bind (wpAny_callSpecial?_slot (name := Str.ofString "__getitem__") htp.typeIs PyProof.Rows.slot_tuple_getitem (wpAny_call_entry PyProof.Rows.slot_tuple_getitem htp.typeIs entry_tuple_getitem ?_ (args_tuple_getitem _ _)))
  show wpAny _ _ (Builtin.Tuple.tupleItemsOf (.ref t) >>= _) _ _ s
  refine wpAny_bind (tupleItemsOf_ htp ?_)
  refine wpAny_bind (wpAny_typeOf hTy ?_)
  rw [if_pos (by decide)]
  refine wpAny_bind (back_applied hs pl pu ps ?_)
  have hno : ¬ ((((items.size : Int) - 1) == 0 && (-1 : Int) == 1 && items.size == items.size) = true) := by simp
  show wpAny _ _ (if (((items.size : Int) - 1) == 0 && (-1 : Int) == 1 && items.size == items.size) = true then _ else _) _ _ s
  rw [if_neg hno, back_pick]
  first
    | exact wpAny_bind (m := Builtin.Tuple.tupleExact _) (wpAny_newObj_type (wpAny_pure ⟨_, rfl, wpAny_pure h⟩) hnew)
    | exact wpAny_bind (m := Builtin.Tuple.tupleExact _) (wpAny_newObj_type (wpAny_bind (wpAny_pure (wpAny_pure ⟨_, rfl, wpAny_pure h⟩))) hnew)
    | exact wpAny_bind (wpAny_bind (m := Builtin.Tuple.tupleExact _) (wpAny_newObj_type (wpAny_pure (wpAny_pure ⟨_, rfl, wpAny_pure h⟩)) hnew))
    | exact wpAny_bind (wpAny_bind (m := Builtin.Tuple.tupleExact _) (wpAny_newObj_type (wpAny_pure ⟨_, rfl, wpAny_pure h⟩) hnew))
end
/-- t[::-1], t a tuple -/
def tBackT (K : PySem.W.Frag) (te : TE) : TE := fun σ H Q => te σ H fun x H1 => ∃ a xs, x = .ref a ∧ SqT K H1 a xs ∧ ∀ p, H1 p = none → Q (.ref p) (upd H1 p (.tup xs.reverse))
section
variable {X : Cx}
theorem pe_backT {e : Expr} {te : TE} {k : Nat} {p1 p2 p3 pos : Pos} (he : PE X e te) : PE X (.Subscript e (.Slice none none (some (.UnaryOp .USub (.Constant (.int 1) k p1) p2)) p3) pos) (tBackT X.K te) := by
  refine ⟨fun pn s σ H Q I h => ?_⟩
  refine Subscript_ (thn (he.run pn s σ H _ I h) fun v z1 ⟨x, H1, J1, rv, qv⟩ => ?_)
  obtain ⟨a, xs, ex, hx, q⟩ := qv
  subst ex
  cases rv
  have hpm : PO X (some (.UnaryOp .USub (.Constant (.int 1) k p1) p2)) (tPart (tUn (rU fun i => .int (-i)) (tC (.int 1)))) := po_some (pe_un un_neg pe_int)
  refine wpAny_Slice (thn (po_none.run pn z1 σ H1 (fun o H2 => o = none ∧ H2 = H1) J1 ⟨rfl, rfl⟩) fun vl z2 ⟨l, H2, J2, pl, el, e2⟩ => ?_)
  subst el e2
  refine thn (po_none.run pn z2 σ H2 (fun o H3 => o = none ∧ H3 = H2) J2 ⟨rfl, rfl⟩) fun vu z3 ⟨u, H3, J3, pu, eu, e3⟩ => ?_
  subst eu e3
  refine thn (hpm.run pn z3 σ H3 (fun o H4 => o = some (-1) ∧ H4 = H3) J3 ⟨1, rfl, -1, rfl, rfl, rfl⟩) fun vs z4 ⟨o, H4, J4, ps, eo, e4⟩ => ?_
  subst eo e4
  have J5 : Inv X pn σ H4 { z4 with heap := z4.heap.push { cls := .type "slice", data := .fields #[vl, vu, vs] } } := J4.kept (t' := z4.toks) fun b ob q => Heap.get?_push_of_some _ q
  obtain ⟨its, r, htp, hz⟩ := J5.tuple hx
  have hlen := r.length
  show wpAny (model X.prog X.w) X.A (subscriptTail e (.Slice none none (some (.UnaryOp .USub (.Constant (.int 1) k p1) p2)) p3) (.ref a) (.ref z4.heap.objs.size)) (EP X pn σ Q) X.xe { z4 with heap := z4.heap.push { cls := .type "slice", data := .fields #[vl, vu, vs] } }
  refine tail_any (ops := [.ref a, .ref z4.heap.objs.size]) htp.typeIs PyProof.Rows.slot_tuple_getitem.lookup ?_ (by with_unfolding_all rfl)
  refine back_tuple htp (Heap.IsSliceOf.new _ vl vu vs) pl pu ps ?_ (by rw [List.size_toArray]; omega)
  refine ⟨.ref _, _, J5.laid (t' := z4.toks) (o := .tup xs.reverse) (fun b ob q => Heap.get?_push_of_some _ q) (Nat.le_refl _) ?_, rfl, q _ (J5.hok.fresh (Nat.le_refl _))⟩
  exact ⟨by rw [List.length_reverse]; exact hz, _, r.reverse, IsTup.new _ _⟩
end
end RG

namespace RG
open PySem PySem.Spec PyProof.Rows L2
theorem w_par3 {σ : L2.St} {H : Hp} {D : Ends} {i j l : Nat} {ta : TA} (h : ta σ H fun vs H1 => ∃ u v w, vs = [u, v, w] ∧ D.nx (((σ.set i (some u)).set j (some v)).set l (some w)) H1) : tPar3 i j l ta D σ H := h
theorem w_back {K : PySem.W.Frag} {σ : L2.St} {H : Hp} {Q : VK} {te : TE} (h : te σ H fun x H1 => ∃ a xs, x = .ref a ∧ SqT K H1 a xs ∧ ∀ p, H1 p = none → Q (.ref p) (upd H1 p (.tup xs.reverse))) : tBackT K te σ H Q := h
end RG
namespace RG
open PySem PySem.Spec PyProof.Rows L2
theorem w_cat {H : Hp} {Q : VK} {a b : Addr} {xs ys : List V} (ha : H a = some (.lst xs)) (hb : H b = some (.lst ys)) (z : xs.length + ys.length ≤ 100000) (h : ∀ p, H p = none → Q (.ref p) (upd H p (.lst (xs ++ ys)))) : rCat (.ref a) (.ref b) H Q := ⟨a, b, xs, ys, rfl, rfl, ha, hb, sz z, h⟩
theorem tyL {K : PySem.W.Frag} {H : Hp} {p : Addr} {xs : List V} (h : H p = some (.lst xs)) : tyV K "list" (.ref p) H := .inl ⟨rfl, _, lstOf h⟩
theorem w_catT {K : PySem.W.Frag} {H : Hp} {Q : VK} {a b : Addr} {x y : V} {xs ys : List V} (ha : SqT K H a (x :: xs)) (hb : SqT K H b (y :: ys)) (z : (x :: xs).length + (y :: ys).length ≤ 100000) (h : ∀ p, H p = none → Q (.ref p) (upd H p (.tup (x :: xs ++ y :: ys)))) : rCatT K (.ref a) (.ref b) H Q := ⟨a, b, _, _, rfl, rfl, ha, hb, by simp, sz z, fun e => (by cases e), fun _ => h⟩
end RG
namespace RG
open PySem PySem.Spec PyProof.Rows L2
section
variable {K : PySem.W.Frag} {H : Hp} {Q : VK}
/-- a new list, a new tuple: what stood stands -/
theorem w_newL {xs : List V} (hl : xs.length ≤ 100000) (h : ∀ p H2, Same H H2 → H p = none → H2 p = some (.lst xs) → Q (.ref p) H2) : NewL xs H Q := ⟨sz hl, fun p np => h p _ (Same.new np) np upd_same⟩
theorem w_newT {xs : List V} (hl : xs.length ≤ 100000) (h : ∀ p H2, Same H H2 → H p = none → H2 p = some (.tup xs) → Q (.ref p) H2) : NewT xs H Q := ⟨sz hl, fun p np => h p _ (Same.new np) np upd_same⟩
theorem w_catN {a b : Addr} {xs ys : List V} (ha : H a = some (.lst xs)) (hb : H b = some (.lst ys)) (z : xs.length + ys.length ≤ 100000) (h : ∀ p H2, Same H H2 → H p = none → H2 p = some (.lst (xs ++ ys)) → Q (.ref p) H2) : rCat (.ref a) (.ref b) H Q :=
  w_cat ha hb z fun p np => h p _ (Same.new np) np upd_same
/-- an item put to a list that is newer than H0 -/
theorem w_appN {H0 : Hp} {a : Addr} {xs : List V} {v : V} (s : Same H0 H) (n : H0 a = none) (ha : H a = some (.lst xs)) (z : xs.length < 100000) (h : ∀ H2, Same H0 H2 → H2 a = some (.lst (xs ++ [v])) → (∀ b, b ≠ a → H2 b = H b) → Q .non H2) : rAppend (.ref a) [v] H Q :=
  w_app ha z (h _ (fun b o e => by rw [upd_ne (ne_of_none e n)]; exact s b o e) upd_same fun b nb => upd_ne nb)
end
end RG
namespace RG
open PySem PySem.Spec PyProof.Rows L2
theorem depthAll_le {m : Nat} : ∀ {ds : List PyData}, (∀ d ∈ ds, d.depth ≤ m) → PyData.depthAll ds ≤ m
  | [], _ => by simp [PyData.depthAll]
  | d :: ds, h => by
    have h1 := h d (by simp)
    have h2 := depthAll_le (ds := ds) fun e he => h e (by simp [he])
    simp only [PyData.depthAll]
    omega
theorem canLayAll_mem : ∀ {ds : List PyData}, (∀ d ∈ ds, d.canLay0 = true) → PyData.canLayAll0 ds = true
  | [], _ => rfl
  | d :: ds, h => by
    have h2 := canLayAll_mem (ds := ds) fun e he => h e (by simp [he])
    simp only [PyData.canLayAll0, h d (by simp), h2, Bool.and_self]
theorem narrowAll_of : ∀ {ds : List PyData}, (∀ d ∈ ds, narrow d = true) → narrowAll ds = true
  | [], _ => rfl
  | d :: ds, h => by
    have h2 := narrowAll_of (ds := ds) fun e he => h e (by simp [he])
    simp only [narrowAll, h d (by simp), h2, Bool.and_self]
end RG
namespace RG
open PySem PySem.Spec PyProof.Rows L2
theorem w_neB {H : Hp} {Q : VK} {a b : Bool} (h : Q (.bl (a != b)) H) : rNe (.bl a) (.bl b) H Q := ⟨rfl, by
  have e : (!decide (V.bl a = V.bl b)) = (a != b) := by
    cases a <;> cases b <;> rfl
  rw [e]
  exact h⟩
theorem w_eqB {H : Hp} {Q : VK} {a b : Bool} (h : Q (.bl (a == b)) H) : rEq (.bl a) (.bl b) H Q := ⟨rfl, by
  have e : decide (V.bl a = V.bl b) = (a == b) := by
    cases a <;> cases b <;> rfl
  rw [e]
  exact h⟩
end RG
/-! ### own classes: methods kept by their promises -/
namespace RG
open PySem PySem.Spec PyProof.Rows L2
/-- a method of an own class, kept by its promise (self is the first of ps) -/
structure OkM (P : Program) (w : World) (K : PySem.W.Frag) (mg : Str → Option Value) (base : Heap) (k : Nat) (C m : Str) (ps : List Str) (sp : Sp) : Prop where
  me : Meth K (He.ga K C) m (He.ma K (He.ga K C) m)
  ex : ∃ fd, fdAt K (He.ma K (He.ga K C) m) = some fd ∧ BindsE fd ps ∧ FnOk P w K mg base (CXN P w) k (He.ma K (He.ga K C) m) fd ps sp
def BindAllM (m qn : Str) (st : Stmt) (ps : List Str) : Prop := ∀ (kV doc pm : Value) (an : Option Addr) (cdv ct : Value) (us : List Value), us.length = ps.length →
  bindArgs (PySem.W.fnOf m qn (defArgs st) (defBody st) (defScope st) .none kV doc pm an cdv ct) ⟨us, []⟩ = pure (ps.zip us)
abbrev FnAtM (K : PySem.W.Frag) (C m qn : Str) (st : Stmt) : Prop := ∃ fd, FunD K m qn (defArgs st) (defBody st) (defScope st) [] [] (He.ma K (He.ga K C) m) fd
section
variable {P : Program} {w : World} {K : PySem.W.Frag} {mg : Str → Option Value} {base : Heap}
theorem OkM.mk' {C m qn : Str} {st : Stmt} {N ps : List Str} {k : Nat} {sp : Sp} (M : Meth K (He.ga K C) m (He.ma K (He.ga K C) m)) (F : FnAtM K C m qn st) (b : BindAllM m qn st ps) (S : FnScope N ps (defScope st)) (len : ∀ vs H Q E, sp vs H Q E → vs.length = ps.length)
    (body : ∀ (cdv : Value) (A : Around) (outer : List Env) (s : Shared) (H : Hp) (vs : List V) (Q : VK) (E : XK), Room k (A.deeper (envOfC qn (defScope st) s.heap.objs.size (He.ma K (He.ga K C) m) cdv)) → sp vs H Q E →
      ∃ t, PSs (cxOf (CXN P w) P w K mg base N qn (defScope st) (He.ma K (He.ga K C) m) cdv A outer s H E) (defBody st) t ∧ t { nx := fun _ H' => Q .non H', rt := Q } (start N vs) H) : OkM P w K mg base (k + 1) C m ps sp := by
  obtain ⟨fd, F⟩ := F
  have e : fdAt K (He.ma K (He.ga K C) m) = some fd := by
    obtain ⟨oc, od, dV, kV, doc, pm, an, cdv, ct, osl, rfl, lk, _⟩ := F.ex
    unfold fdAt
    rw [lk]
  exact ⟨M, fd, e, F.bindsA b, F.ok S len body⟩
end
section
variable {X : Cx}
/-- o.m(e, ..) -/
theorem pe_m {pl : Sem Bool} {j k : Nat} {C m : Str} {ps : List Str} {sp : Sp} {E : XK} {apos pos : Pos} {o e : Expr} {es : List Expr} {to : TE} {t : TA} (G : OkM X.prog X.w X.K X.mg X.base j C m ps sp) (c : Cls X.K (He.ga X.K C)) (hr : Room k X.A) (hx : Passes (CXN X.prog X.w) X E) (ho : PE X o to) (ha : PA X (e :: es) t)
    (hk : j ≤ k := by first | decide | omega) (he : starEach (e :: es) X.env = (false, eval e X.env) :: starEach es X.env := by rfl) (hpl : (backTo pos (starEach es X.env)).any (·.1) = false := by rfl)
    (ht : eval (.Call (.Attribute o m apos) (e :: es) [] pos) X.env = (do
      let ov ← eval o X.env
      standAt apos.atName
      let (f, first) ← holding [ov] (getMethod ov m pl)
      callWith pos f first (backTo pos (starEach (e :: es) X.env)) (backToKw pos (keywordEach [] X.env))) := by rfl) :
    PE X (.Call (.Attribute o m apos) (e :: es) [] pos) (tMeth (He.ga X.K C) m sp [] E to t) := by
  obtain ⟨me, fd, fe, b, F⟩ := G
  exact pe_meth (pl := pl) ho c me F (hr.mono hk) b.binds .nil hx ha he hpl ht
/-- o.m() -/
theorem pe_m0 {pl : Sem Bool} {j k : Nat} {C m : Str} {ps : List Str} {sp : Sp} {E : XK} {apos pos : Pos} {o : Expr} {to : TE} (G : OkM X.prog X.w X.K X.mg X.base j C m ps sp) (c : Cls X.K (He.ga X.K C)) (hr : Room k X.A) (hx : Passes (CXN X.prog X.w) X E) (ho : PE X o to)
    (hk : j ≤ k := by first | decide | omega)
    (ht : eval (.Call (.Attribute o m apos) [] [] pos) X.env = (do
      let ov ← eval o X.env
      standAt apos.atName
      let (f, first) ← holding [ov] (getMethod ov m pl)
      callWith pos f first (backTo pos (starEach [] X.env)) (backToKw pos (keywordEach [] X.env))) := by rfl) :
    PE X (.Call (.Attribute o m apos) [] [] pos) (tMeth (He.ga X.K C) m sp [] E to tNil) := by
  obtain ⟨me, fd, fe, b, F⟩ := G
  exact pe_meth0 (pl := pl) ho c me F (hr.mono hk) b.binds .nil hx ht
/-- C(e, ..), C an own class with __init__ -/
theorem pe_new {j k : Nat} {C : Str} {ps : List Str} {sp : Sp} {E : XK} {p pos : Pos} {e : Expr} {es : List Expr} {t : TA} (G : OkM X.prog X.w X.K X.mg X.base j C "__init__" ps sp) (M : Mk X.K (He.ga X.K C) (He.ma X.K (He.ga X.K C) "__init__")) (gl : X.mg C = some (.ref (He.ga X.K C))) (hr : Room k X.A) (hx : Passes (CXN X.prog X.w) X E) (ha : PA X (e :: es) t)
    (hk : j + 1 ≤ k := by first | decide | omega) (hg : Gl X C := by rfl) (hdb : (C == ("__debug__" : Str)) = false := by decide) (he : starEach (e :: es) X.env = (false, eval e X.env) :: starEach es X.env := by rfl) (hpl : (backTo pos (starEach es X.env)).any (·.1) = false := by rfl) :
    PE X (.Call (.Name C p) (e :: es) [] pos) (tMake (He.ga X.K C) sp [] E t) := by
  obtain ⟨me, fd, fe, b, F⟩ := G
  exact pe_make M F (hr.mono hk) hg gl b.binds .nil hx ha hdb he hpl
/-- C() -/
theorem pe_new0 {j k : Nat} {C : Str} {ps : List Str} {sp : Sp} {E : XK} {p pos : Pos} (G : OkM X.prog X.w X.K X.mg X.base j C "__init__" ps sp) (M : Mk X.K (He.ga X.K C) (He.ma X.K (He.ga X.K C) "__init__")) (gl : X.mg C = some (.ref (He.ga X.K C))) (hr : Room k X.A) (hx : Passes (CXN X.prog X.w) X E)
    (hk : j + 1 ≤ k := by first | decide | omega) (hg : Gl X C := by rfl) (hdb : (C == ("__debug__" : Str)) = false := by decide) : PE X (.Call (.Name C p) [] [] pos) (tMake (He.ga X.K C) sp [] E tNil) := by
  obtain ⟨me, fd, fe, b, F⟩ := G
  exact pe_make0 M F (hr.mono hk) hg gl b.binds .nil hx hdb
end
end RG
namespace RG
open PySem PySem.Spec PyProof.Rows L2
section
variable {K : PySem.W.Frag} {σ : L2.St} {H : Hp} {D : Ends} {ta tv to : TE} {Q : VK} {f m : Str} {a C dx : Addr} {fs : List (Str × V)} {v y : V} {t : TA} {sp : Sp} {E : XK}
theorem w_tfld (h : ta σ H fun x H1 => ∃ a C dx fs v, x = .ref a ∧ H1 a = some (.ins C dx fs) ∧ Cls K C ∧ NoAttr K C f ∧ fs.lookup f = some v ∧ Q v H1) : tFld K ta f σ H Q := h
theorem w_sfld (h : tv σ H fun y H1 => ta σ H1 fun x H2 => ∃ a C dx fs, x = .ref a ∧ H2 a = some (.ins C dx fs) ∧ Cls K C ∧ NoAttr K C f ∧ fs.length < 1000 ∧ D.nx σ (upd H2 a (.ins C dx (putF f y fs)))) : sFld K ta tv f D σ H := h
theorem w_meth (h : ta σ H fun x H1 => ∃ a dx fs, x = .ref a ∧ H1 a = some (.ins C dx fs) ∧ fs.lookup m = none ∧ t σ H1 fun vs H2 => sp (x :: (vs ++ [])) H2 Q E) : tMeth C m sp [] E ta t σ H Q := h
theorem w_make (h : t σ H fun vs H1 => ∀ x dx, H1 x = none → H1 dx = none → dx ≠ x → sp (.ref x :: (vs ++ [])) (upd (upd H1 dx (.own x)) x (.ins C dx [])) (fun v H2 => v = .non ∧ Q (.ref x) H2) E) : tMake C sp [] E t σ H Q := h
end
end RG
/-! ### len(o), str(o), o == p by own methods; list.count -/
namespace RG
open PySem PySem.Spec PyProof.Rows L2
section
variable {X : Cx} {pins : List (Addr × Obj)} {σ : L2.St} {H : Hp} {s : Shared}
/-- a def run below the running body -/
theorem run_below {A : Around} {k : Nat} {f : Addr} {fd : FuncData} {ps : List Str} {sp : Sp} {E : XK} {Q : VK} {us : List Value} {vs : List V} (F : FnOk X.prog X.w X.K X.mg X.base (CXN X.prog X.w) k f fd ps sp) (hr : Room k A) (e0 : Env0 X.prog X.w X.K X.mg X.base A X.stack s H) (hb : BindsE fd ps) (hx : Passes (CXN X.prog X.w) X E)
    (I : Inv X pins σ H s) (r : Vals vs us) (h : sp vs H Q E) : wpAny (model X.prog X.w) A (call (.ref f) us) (EP X pins σ Q) X.xe s := by
  have hl : us.length = ps.length := by rw [← r.length]; exact F.len _ _ _ _ h
  refine wpAny_call (codeAny_mono (F.run A X.stack s H ⟨us, []⟩ us vs Q E hr e0 (hb s us hl) r h) fun r s' hq => ?_)
  cases r with
  | error e => exact hx pins σ H s e s' I hq
  | ok fl =>
    cases fl with
    | ret u => exact I.after hq
    | _ => exact False.elim hq
end
/-- len(o) by an own __len__ -/
def rLenO (C : Addr) (sp : Sp) (E : XK) : List V → Hp → VK → Prop := fun xs H Q => ∃ a dx fs, xs = [V.ref a] ∧ H a = some (.ins C dx fs) ∧ sp [.ref a] H (fun z H' => ∃ n : Nat, z = .int (n : Nat) ∧ n ≤ 100000 ∧ Q z H') E
/-- str(o) by an own __str__ -/
def rStrO (C : Addr) (sp : Sp) (E : XK) : List V → Hp → VK → Prop := fun xs H Q => ∃ a dx fs, xs = [V.ref a] ∧ H a = some (.ins C dx fs) ∧ sp [.ref a] H (fun z H' => ∃ y, z = .str y ∧ Q z H') E
section
variable {X : Cx}
theorem call_lenO {j k : Nat} {C : Str} {sp : Sp} {E : XK} (G : OkM X.prog X.w X.K X.mg X.base j C "__len__" ["self"] sp) (hr : Room k X.A) (hx : Passes (CXN X.prog X.w) X E) (hk : j + 1 ≤ k := by first | decide | omega) : CallR X (.builtin "len") (rLenO (He.ga X.K C) sp E) := by
  intro pins s σ H xs us Q I r h
  obtain ⟨a, dx, fs, rfl, ha, q⟩ := h
  obtain ⟨u, rfl, ru⟩ := vals1 r
  cases (show u = Value.ref a from ru)
  obtain ⟨mA, O, _⟩ := ins_get I.hok ha
  obtain ⟨od, J, _⟩ := O.look
  obtain ⟨me, fd, fe, b, F⟩ := G
  have hr1 : Room j X.A.in1 := (hr.mono hk).in1
  refine Calls.call_function_entry kind_len plain_len entry_len (args_len1 _) ?_
  unfold Builtin.«len»
  refine wpAny_bind (m := oneArg "len" _) (wpAny_pure ?_)
  refine wpAny_bind (m := callSpecial? (.ref a) (Str.ofString "__len__")) (PySem.W.special_fn I.kIn J me.at_ (beq_iff_eq.mp me.fn) (wpAny_mono (run_below (us := [.ref a]) (vs := [.ref a]) F hr1 I.env0.in1 b hx I (.cons rfl .nil) q) (fun w s' z => ?_) fun _ _ x => x))
  obtain ⟨z', H', I', rz, n, en, hn, qz⟩ := z
  subst en
  obtain ⟨t, e⟩ := (show ∃ t, w = Value.int (n : Nat) t from rz)
  cases e
  refine wpAny_bind (wpAny_holding (wpAny_pure ?_))
  refine wpAny_bind (wpAny_letGo ?_)
  show wpAny _ _ (if (n : Int) < 0 then _ else _) _ _ _
  rw [if_neg (by omega)]
  show wpAny _ _ (if (n : Int) ≥ 2 ^ 63 then _ else _) _ _ _
  rw [if_neg (by omega)]
  exact wpAny_bind (wpAny_mkInt (wpAny_pure ⟨_, rfl, .int (n : Nat), H', I'.tok _, ⟨_, rfl⟩, qz⟩))
theorem call_strO {j k : Nat} {C : Str} {sp : Sp} {E : XK} (G : OkM X.prog X.w X.K X.mg X.base j C "__str__" ["self"] sp) (hr : Room k X.A) (hx : Passes (CXN X.prog X.w) X E) (hk : j + 2 ≤ k := by first | decide | omega) : CallR X (.type "str") (rStrO (He.ga X.K C) sp E) := by
  intro pins s σ H xs us Q I r h
  obtain ⟨a, dx, fs, rfl, ha, q⟩ := h
  obtain ⟨u, rfl, ru⟩ := vals1 r
  cases (show u = Value.ref a from ru)
  obtain ⟨mA, O, _⟩ := ins_get I.hok ha
  obtain ⟨od, J, _⟩ := O.look
  obtain ⟨me, fd, fe, b, F⟩ := G
  have hr2 : Room j X.A.in1.in1 := (show Room (j + 1) X.A.in1 from (hr.mono hk).in1).in1
  refine PySem.W.kso_call (by have := hr2.un; omega) I.kIn J me.at_ me.fn (wpAny_mono (run_below (us := [.ref a]) (vs := [.ref a]) F hr2 I.env0.in1.in1 b hx I (.cons rfl .nil) q) (fun w s' z => ?_) fun _ _ x => x)
  obtain ⟨z', H', I', rz, y, ey, qz⟩ := z
  subst ey
  obtain ⟨t, e⟩ := (show ∃ t, w = Value.str y t from rz)
  cases e
  exact ⟨.str y, H', I', ⟨t, rfl⟩, qz⟩
end
theorem count_eqU {x : V} : ∀ {xs : List V} {us : List Value}, Vals xs us → xs.all flatV = true → us.countP (eqU x) = xs.countP fun y => eqV y x
  | _, _, .nil, _ => rfl
  | y :: xs, u :: us, .cons r t, f => by
    rw [List.all_cons, Bool.and_eq_true] at f
    rw [List.countP_cons, List.countP_cons, eqU_of r f.1, count_eqU t f.2]
/-- xs.count(x), flat items -/
def rCntF (K : PySem.W.Frag) : V → List V → Hp → VK → Prop := fun x xs H Q => ∃ (p : Addr) (ys : List V) (y : V), x = .ref p ∧ xs = [y] ∧ SqL K H p ys ∧ flatV y = true ∧ ys.all flatV = true ∧ Q (.int (ys.countP fun z => eqV z y : Nat)) H
section
variable {X : Cx}
theorem mt_cntF : MtR X "list.count" (rCntF X.K) := by
  intro pins s σ H x xs v us Q I rx rxs h
  obtain ⟨p, ys, y, rfl, rfl, hs, fy, fs, q⟩ := h
  cases rx
  obtain ⟨u, rfl, ru⟩ := rxs.one
  obtain ⟨its, rv, ⟨⟨cls, dd, data, sl⟩, n, ho, hc, hdn, hd⟩, hlen⟩ := I.list hs
  simp only at hc hd
  subst hc hd
  refine call_meets PySem.F.slot_list_count ⟨_, ho, rfl⟩ PySem.F.entry_list_count (PySem.F.args_list_count_2 _ _) (SeqAt.list_countAt p its.toArray n dd sl u (eqU y)) ⟨ho, fun z hz => mem_eqAt ru fy rv fs z (by simpa using hz), ?_⟩
  refine ⟨.int (ys.countP fun z => eqV z y : Nat), H, I.tok _, ⟨s.toks, ?_⟩, q⟩
  show Value.int ((its.toArray.toList.countP (eqU y) : Nat) : Int) s.toks = Value.int ((ys.countP fun z => eqV z y : Nat) : Int) s.toks
  rw [show its.toArray.toList.countP (eqU y) = ys.countP fun z => eqV z y from count_eqU rv fs]
end
end RG
namespace RG
open PySem PySem.Spec PyProof.Rows L2
/-- one sign in a text -/
def rInSg : R2 := fun x y H Q => ∃ (c : Nat) (z : Str), x = .str ⟨#[c]⟩ ∧ y = .str z ∧ Q (.bl (decide (c ∈ z.cps.toList))) H
theorem w_inSg {H : Hp} {Q : VK} {c : Nat} {z : Str} (h : Q (.bl (decide (c ∈ z.cps.toList))) H) : rInSg (.str ⟨#[c]⟩) (.str z) H Q := ⟨c, z, rfl, rfl, h⟩
theorem w_iStr {te : TE} {σ : L2.St} {H : Hp} {R : It → Hp → Prop} (h : te σ H fun v H1 => ∃ x, v = .str x ∧ R (Its x) H1) : iStr te σ H R := h
end RG
/-! ### defs called where an exception is handled; lambdas handed to a def (own words over the hand layer) -/
namespace RG
open PySem PySem.Spec PyProof.Rows L2 HotX
section
variable {prog : Program} {w : World} {A : Around} {E : Value → Shared → Prop} {s : Shared}
/-- the end of a list's walk while an exception is handled -/
theorem list_end_hot {it l x1 : Addr} {i : Nat} {its : Array Value} {Q : Option Value → Shared → Prop} (hot : HotAt A x1 s.heap) (nx : x1 ≠ it) (st : s.heap.IsListIter it l i) (hl : s.heap.IsList l its) (no : its[i]? = none)
    (k : ∀ h2, Heap.ExtBut it s.heap h2 → Q none { s with heap := h2 }) : wpAny (model prog w) A (pyNext (.ref it)) Q E s := by
  obtain ⟨oi, goi, _, di⟩ := id st
  obtain ⟨ol, gol, _, nl, dl⟩ := hl
  obtain ⟨hh, o1, vs1, g1, d1, c1⟩ := hot
  unfold pyNext
  refine wpAny_bind (wpAny_attempt (wpAny_callSpecial?_slot (name := Str.ofString "__next__") st.typeIs slot_listiter_next (wpAny_call_entry slot_listiter_next st.typeIs entry_listiter_next ?_ (args_listiter_next _))))
  refine (show wpAny _ _ (field (.ref it) 0 >>= _) _ _ s from wpAny_bind (wpAny_field goi di (x := .ref l) rfl ?_))
  have n0 : ¬ ((Value.ref l == Value.none) = true) := Bool.false_ne_true
  show wpAny _ _ (if (Value.ref l == Value.none) = true then _ else _) _ _ s; rw [if_neg n0]
  refine (show wpAny _ _ (field (.ref it) 1 >>= _) _ _ s from wpAny_bind (wpAny_field goi di (x := .int i 0) rfl ?_))
  refine (show wpAny _ _ (seqItems? (.ref l) >>= _) _ _ s from wpAny_bind (wpAny_seqItems gol dl ?_))
  simp only [no, Int.toNat_natCast]
  refine wpAny_bind (wpAny_rule (wpAny_bind (wpAny_setField goi di (by simp) ?_)))
  have g2 : ∀ f, (s.heap.update it f).get? x1 = some o1 := fun f => by rw [Heap.get?_update_other _ _ nx.symm]; exact g1
  refine (show wpAny _ _ (newExc (.type "StopIteration") [] >>= _) _ _ _ from wpAny_bind ?_)
  simp only [newTuple, newExc]
  refine wpAny_bind (wpAny_newObj_type ?_ (by size_fits))
  refine wpAny_bind (m := firstArgMember _ _) (wpAny_of_eq (a := Value.none) (by first | rfl | (simp only [firstArgMember]; rfl)) (wpAny_newObj_type ?_ (by size_fits)))
  refine raiseNew_hot ⟨hh, o1, vs1, Heap.get?_push_of_some _ (Heap.get?_push_of_some _ (g2 _)), d1, c1⟩ (Nat.ne_of_lt (Heap.lt_size (Heap.get?_push_of_some _ (g2 _)))) (Heap.get?_push_size _ rfl) rfl (by first | (simp; done) | (simp; omega)) ?_
  refine wpAny_bind (wpAny_isInstance (T := "StopIteration") (b := true) ⟨_, Heap.get?_update_self _ (Heap.get?_push_size _ rfl) rfl, rfl⟩ isSubtype_stop (wpAny_pure (k _ fun b o nb e => ?_)))
  have e2 : ∀ f, (s.heap.update it f).get? b = some o := fun f => by rw [Heap.get?_update_other _ _ nb.symm]; exact e
  rw [Heap.get?_update_other _ _ (Nat.ne_of_gt (Heap.lt_size (Heap.get?_push_of_some _ (e2 _))))]
  exact Heap.get?_push_of_some _ (Heap.get?_push_of_some _ (e2 _))
end
end RG
namespace RG
open PySem PySem.Spec PyProof.Rows L2 HotX L2H
section
variable {X : Cx} {pins : List (Addr × Obj)} {σ : L2.St} {H : Hp} {s : Shared}
/-- the handled exception's object: out of the reach of all that changes -/
theorem hotC_pin {p : Addr × Obj} (hp : p ∈ X.pn) (I : Inv X pins σ H s) : s.heap.get? p.1 = some p.2 ∧ H p.1 = none ∧ p.1 ∉ frs X.stack ∧ ∀ v, p.2.data ≠ .cell v := by
  obtain ⟨a, b, c, d, e⟩ := I.pin p (List.mem_append_left _ hp)
  exact ⟨a, b, fun hm => (List.mem_cons.mp (I.stkSub p.1 hm)).elim c d, e⟩
/-- [elt for tg in iter] where an exception is handled: each item y by its x, nothing else changes -/
def tLcH (K : PySem.W.Frag) (ti : TE) (g : TG) (te : TE) (vs : List Nat) : TE := fun σ H Q => ti σ H fun v H1 => ∃ (a : Addr) (xs ys : List V), v = .ref a ∧ H1 a = some (.lst xs) ∧ ys.length = xs.length ∧ xs.length ≤ 1000 ∧
  (∀ (j : Nat) (x y : V) (H2 : Hp), xs[j]? = some x → ys[j]? = some y → g x (wipe σ vs) H2 fun σ2 H3 => wipe σ2 vs = wipe σ vs ∧ te σ2 H3 fun z H4 => z = y ∧ H4 = H2) ∧ ∀ D, H1 D = none → Q (.ref D) (upd H1 D (.lst ys))
theorem pe_lcH {elt tg iter : Expr} {scope : Scope} {own : List (Str × Nat)} {pos : Pos} {ti : TE} {g : TG} {te : TE} (hot : HotC X) (nd : X.N.Nodup) (hi : PE X iter ti) (ok : BlkOk X.N X.env.scope scope own)
    (hg : ∀ (s : Shared) (H : Hp) (C : Addr) (cl : List (Str × Addr)) (fp : List Addr), PG (X.blk s H scope (compEnvC scope cl C X.env) fp) tg g)
    (he : ∀ (s : Shared) (H : Hp) (C : Addr) (cl : List (Str × Addr)) (fp : List Addr), PE (X.blk s H scope (compEnvC scope cl C X.env) fp) elt te)
    (hs : ∀ x, foldedSetIterable iter X.env x = pure x := by intro _; rfl) : PE X (.ListComp elt [⟨tg, iter, [], 0⟩] scope pos) (tLcH X.K ti g te (own.map (·.2))) := by
  refine ⟨fun pins s σ H Q I h => ?_⟩
  obtain ⟨p, ⟨hh, v1, e1, c1⟩, hp⟩ := hot
  rw [eval_ListComp]
  have hfree : ∀ y ∈ scope.names, y.2 = .free → ∃ c, X.env.cells.lookup y.1 = some c := fun y hy e => (ok.free y hy e).elim (fun k => I.ok.has _ (.inl k)) fun k => I.ok.has _ (.inr k)
  refine wpAny_comprehension_free (use := none) rfl hs (closure_ok hfree) ok.kind (fun y hy e => by rw [ok.uniq y hy, e]) (thn (hi.run pins s σ H _ I h) fun xv s1 hx => ?_)
  obtain ⟨v, H1, I1, rv, a, xs, ys, rfl, ha, hyl, hxl, step, q⟩ := hx
  obtain rfl : xv = Value.ref a := rv
  obtain ⟨its, ri, pl, _⟩ := I1.list (SqL.of ha)
  refine wpAny_pyIter_list pl.isList ?_
  generalize hIt : s1.heap.objs.size = it
  generalize hs2 : ({ s1 with heap := s1.heap.push { cls := .type "list_iterator", data := .fields #[.ref a, .int 0 0] } } : Shared) = s2
  have h2 : s2.heap = s1.heap.push { cls := .type "list_iterator", data := .fields #[.ref a, .int 0 0] } := by rw [← hs2]
  have I2 : Inv X pins σ H1 s2 := by
    rw [← hs2]
    exact I1.kept (t' := s1.toks) fun b o e => Heap.get?_push_of_some _ e
  have st2 : s2.heap.IsListIter it a 0 := by
    rw [h2, ← hIt]
    exact ⟨_, Heap.get?_push_size _ rfl, rfl, rfl⟩
  have fit : FpOk X pins H1 it := I1.fpOk (Nat.le_of_eq hIt) (I1.hok.fresh (Nat.le_of_eq hIt))
  have lit : it < s2.heap.objs.size := by
    rw [h2, Heap.size_push, ← hIt]
    exact Nat.lt_succ_self _
  refine wpAny_newObj_type (newEnv_comp ?_) (by show 0 ≤ sizeLine; decide)
  generalize hD : s2.heap.objs.size = D
  have nD : H1 D = none := I2.hok.fresh (Nat.le_of_eq hD)
  have qD := q D nD
  generalize hs3 : ({ s2 with heap := s2.heap.push { cls := .type "list", data := .seq ([] : List Value).toArray } } : Shared) = s3
  have h3 : s3.heap = s2.heap.push { cls := .type "list", data := .seq ([] : List Value).toArray } := by rw [← hs3]
  have I3 : Inv X pins σ (upd H1 D (.lst [])) s3 := by
    rw [← hs3]
    refine I2.laid (t' := s2.toks) (fun b o e => Heap.get?_push_of_some _ e) (Nat.le_of_eq hD) ⟨Nat.zero_le _, [], 0, .nil, ?_⟩
    rw [← hD]
    exact Heap.get?_push_size _ rfl
  have fp3 : ∀ b ∈ [it], FpOk X pins (upd H1 D (.lst [])) b ∧ b < s3.heap.objs.size := fun b hb => by
    cases List.mem_singleton.mp hb
    refine ⟨⟨?_, fit.2⟩, by rw [h3, Heap.size_push]; exact Nat.lt_succ_of_lt lit⟩
    rw [upd_ne (by rw [← hD]; exact Nat.ne_of_lt lit)]
    exact fit.1
  have st3 : s3.heap.IsListIter it a 0 := st2.at fun o e => by rw [h3]; exact Heap.get?_push_of_some _ e
  have I4 := block_start I3 ok nd fp3
  have pg := hg s3 (upd H1 D (.lst [])) s3.heap.objs.size (cellsFrom (s3.heap.objs.size + 1) scope.names (cloFrom X.env.cells scope.names [])) [it]
  have pe := he s3 (upd H1 D (.lst [])) s3.heap.objs.size (cellsFrom (s3.heap.objs.size + 1) scope.names (cloFrom X.env.cells scope.names [])) [it]
  show codeAny _ _ (.compStart (.ListComp elt [⟨tg, iter, [], 0⟩] scope pos) 0 (.ref it) (.ref D) (compEnvC scope (cellsFrom (s3.heap.objs.size + 1) scope.names (cloFrom X.env.cells scope.names [])) s3.heap.objs.size X.env)) (compPost (model X.prog X.w) X.A X.xe none _ (.ref D) s3.heap.objs.size) { s3 with heap := pushCells (s3.heap.push { cls := .type "dict", data := .dict #[] }) scope.names }
  obtain ⟨gp, np, fp, _⟩ := hotC_pin hp I3
  have npit : p.1 ≠ it := (fp3 it (by simp)).1.2.2.2.2.2 p (List.mem_append_left _ hp)
  have nit3 : (upd H1 D (.lst [])) it = none := (fp3 it (by simp)).1.1
  generalize hce : compEnvC scope (cellsFrom (s3.heap.objs.size + 1) scope.names (cloFrom X.env.cells scope.names [])) s3.heap.objs.size X.env = ce at I4 pg pe ⊢
  have cL : ce.locals = s3.heap.objs.size := by subst hce; rfl
  have naD : a ≠ D := ne_of_none ha nD
  generalize hH3 : upd H1 D (.lst []) = H3 at I3 I4 pg pe fp3 np nit3
  generalize hs4 : ({ s3 with heap := pushCells (s3.heap.push { cls := .type "dict", data := .dict #[] }) scope.names } : Shared) = s4 at I4 ⊢
  have st4 : s4.heap.IsListIter it a 0 := st3.at fun o e => by rw [← hs4]; exact pushCells_keeps _ _ _ _ (Heap.get?_push_of_some _ e)
  have stat : ∀ {σ' : L2.St} {H' : Hp} {s' : Shared}, Inv (X.blk s3 H3 scope ce [it]) [] σ' H' s' → H' it = none → FpOk (X.blk s3 H3 scope ce [it]) [] H' it := fun {σ' H' s'} J hn =>
    ⟨hn, (J.ok.exf it (by simp)).1, J.ok.exfs it (by simp), .inl (by simp), fun x c e => (J.ok.exf it (by simp)).2 x c e, fun r hr => absurd (show r ∈ ([] : List (Addr × Obj)) ++ [] from hr) (by simp)⟩
  have loop : codeAny (model X.prog X.w) X.A (.compLoop (.ListComp elt [⟨tg, iter, [], 0⟩] scope pos) 0 (.ref it) (.ref D) ce) (compPost (model X.prog X.w) X.A X.xe none (EP X pins σ Q) (.ref D) s3.heap.objs.size) s4 := by
    refine compLoop_any (fun n s' => ∃ j, j ≤ xs.length ∧ n = xs.length - j ∧ Inv (X.blk s3 H3 scope ce [it]) [] (wipe σ (own.map (·.2))) (upd H1 D (.lst (ys.take j))) s' ∧ s'.heap.IsListIter it a j) ?_ xs.length ⟨0, Nat.zero_le _, rfl, by rw [List.take_zero, hH3]; exact I4, st4⟩
    rintro n s5 ⟨j, hj, rfl, I5, st5⟩
    have hn5 : (upd H1 D (.lst (ys.take j))) it = none := by
      rw [upd_ne (by rw [← hD]; exact Nat.ne_of_lt lit)]
      exact fit.1
    obtain ⟨f0, f1, f2, f3, f4, f5⟩ := stat I5 hn5
    have ha5 : (upd H1 D (.lst (ys.take j))) a = some (.lst xs) := by
      rw [upd_ne naD]
      exact ha
    obtain ⟨its5, ri5, pl5, _⟩ := I5.list (SqL.of ha5)
    have len5 := ri5.length
    rcases Nat.lt_or_ge j xs.length with hlt | hge
    · obtain ⟨u, hu, ru⟩ := ri5.get (show xs[j]? = some xs[j] from List.getElem?_eq_getElem hlt)
      refine wpAny_pyNext_list_item st5 pl5.isList (x := u) (by simpa using hu) fun h6 st6 sb => ?_
      have I6 : Inv (X.blk s3 H3 scope ce [it]) [] (wipe σ (own.map (·.2))) (upd H1 D (.lst (ys.take j))) { s5 with heap := h6 } := I5.turned (t' := s5.toks) (fun b o hb e => (sb.2 b hb).trans e) f0 f1 f3 f4 f5
      obtain ⟨o6, g6, c6, d6⟩ := id st6
      refine go_of (s := { s5 with heap := h6 }) g6 c6 d6 (by decide) ?_
      have I6' := I6.pinned (fp := [it]) (fun b hb => by cases List.mem_singleton.mp hb; exact stat I6 hn5) (fun b hb => by cases List.mem_singleton.mp hb; exact ⟨o6, g6, fun v z => by rw [d6] at z; cases z⟩)
      have hjy : j < ys.length := by omega
      have hstep := step j xs[j] ys[j] (upd H1 D (.lst (ys.take j))) (List.getElem?_eq_getElem hlt) (List.getElem?_eq_getElem hjy)
      refine thnF (pg.run _ _ _ _ xs[j] u _ I6' ru hstep) fun _ s8 ⟨σ8, H8, I8, hw8, q8⟩ => ?_
      refine wpAny_tests_nil ?_
      rw [if_pos rfl]
      refine thnF (pe.run _ s8 σ8 H8 _ I8 q8) fun z s10 ⟨yv, H10, I10, r10, ey, eH⟩ => ?_
      subst ey eH
      refine app_ok (X := X.blk s3 H3 scope ce [it]) I10 upd_same (by rw [List.length_take, sizeLine_eq]; omega) r10 fun s11 I11 => ?_
      have hl : (wipe σ (own.map (·.2))).length = σ8.length := by rw [← hw8, wipe_length]
      refine ⟨xs.length - (j + 1), by omega, j + 1, hlt, rfl, ?_, ?_⟩
      · have eU : upd (upd H1 D (.lst (ys.take j))) D (.lst (ys.take j ++ [ys[j]])) = upd H1 D (.lst (ys.take (j + 1))) := by
          rw [List.take_add_one, List.getElem?_eq_getElem hjy]
          funext b
          unfold upd
          split <;> rfl
        have I12 := (I11.unpinned (pins := [])).weak hl (fun m v e => by
          rw [← hw8] at e
          exact (wipe_some e).1)
        rw [eU] at I12
        exact I12
      · refine st6.at fun o e => ?_
        exact (I11.pin (it, o) (List.mem_append_right _ (List.mem_append_right _ (mem_pinsAt (by simp) e)))).1
    · have ej : j = xs.length := by omega
      subst ej
      have gp5 : s5.heap.get? p.1 = some p.2 := I5.base.keep p.1 p.2 gp np fp (by
        intro hm
        exact npit (List.mem_singleton.mp hm))
      refine list_end_hot (x1 := p.1) ⟨hh, p.2, v1, gp5, e1, c1⟩ npit st5 pl5.isList (by simp; omega) fun h6 eb => ?_
      have I6 : Inv (X.blk s3 H3 scope ce [it]) [] (wipe σ (own.map (·.2))) (upd H1 D (.lst (ys.take xs.length))) { s5 with heap := h6 } := I5.turned (t' := s5.toks) (fun b o hb e => eb b o hb e) f0 f1 f3 f4 f5
      have I7 : Inv X pins σ (upd H1 D (.lst (ys.take xs.length))) { s5 with heap := h6 } := I3.call' (ch := [it]) I6.os I6.base I6.hok I6.bare fun b hb => ⟨(fp3 b hb).1.2.2.2.1, (fp3 b hb).1.2.1, (fp3 b hb).1.2.2.2.2.1, (fp3 b hb).1.2.2.2.2.2⟩
      have nC : (upd H1 D (.lst (ys.take xs.length))) s3.heap.objs.size = none := by
        have z : (upd H1 D (.lst (ys.take xs.length))) ce.locals = none := I6.free
        rw [cL] at z
        exact z
      obtain ⟨m, hn, _⟩ := I6.loc
      have hn : h6.Ns ce.locals m := hn
      rw [cL] at hn
      obtain ⟨k0, k1, k2, k3, k4, k5⟩ := I3.fpOk (H' := upd H1 D (.lst (ys.take xs.length))) (Nat.le_refl _) nC
      refine ⟨m, hn, fun h'' sb => ⟨.ref D, _, I7.turned (t' := s5.toks) (fun b o hb e => (sb.2 b hb).trans e) k0 k1 k3 k4 k5, rfl, ?_⟩⟩
      rw [← hyl, List.take_length]
      exact qD
  exact codeAny_compStart_list loop (wpAny_pyIter_listiter st4 loop)
end
end RG
namespace RG
open PySem PySem.Spec PyProof.Rows L2 HotX L2H
section
variable {prog : Program} {w : World} {A : Around} {E : Value → Shared → Prop} {s : Shared}
theorem walks_hot {x1 I l : Addr} (hh : A.handled = some (.ref x1)) {o1 : Obj} {vs1 : Array Value} (d1 : o1.data = .fields vs1) (c1 : vs1[2]? = some .none) (nl : l ≠ I) (nx : x1 ≠ I) (its : Array Value) :
    Walks prog w A I [I, l, x1] [I] its.size (fun i v => its[i]? = some v) (fun i h => (h.IsListIter I l i ∧ h.IsList l its) ∧ h.get? x1 = some o1) where
  sub := fun b hb => by simp at hb; simp [hb]
  frame := fun _ _ _ st hk => ⟨⟨st.1.1.at fun o e => hk I (by simp) o e, st.1.2.at fun o e => hk l (by simp) o e⟩, hk x1 (by simp) _ st.2⟩
  item := fun i s Q E hi st hQ => by
    refine wpAny_pyNext_list_item st.1.1 st.1.2 (x := its[i]) (by simp [hi]) fun h2 st2 sb => ?_
    exact hQ _ h2 s.toks (by simp [hi]) ⟨⟨st2, st.1.2.extBut sb.extBut nl⟩, sb.extBut _ _ nx st.2⟩ fun b o hb e => sb.extBut b o (fun z => hb (by simp [z])) e
  done := fun s Q E st hQ => list_end_hot ⟨hh, o1, vs1, st.2, d1, c1⟩ nx st.1.1 st.1.2 (by simp) fun h2 eb => hQ h2 s.toks fun b o hb e => eb b o (fun z => hb (by simp [z])) e
  self := fun _ _ _ _ st hQ => wpAny_pyIter_listiter st.1.1 hQ
theorem sum_hot {x1 l : Addr} {its : List Value} {ns : List Int} {Q : Value → Shared → Prop} (hot : HotAt A x1 s.heap) (hl : s.heap.IsList l its.toArray) (hi : IntsAre its ns)
    (k : ∀ h2 tk t2, (∀ b o, s.heap.get? b = some o → h2.get? b = some o) → Q (.int ns.sum t2) { s with heap := h2, toks := tk }) : wpAny (model prog w) A (call (.builtin "sum") [.ref l]) Q E s := by
  obtain ⟨xs, e⟩ := hi.allInts.items
  have hn : numsOf (intItems xs).toList = ns := by rw [← e]; exact hi.numsOf
  rw [nums_intItems] at hn
  rw [e] at hl
  obtain ⟨hh, o1, vs1, g1, d1, c1⟩ := hot
  have lx : x1 < s.heap.objs.size := Heap.lt_size g1
  refine call_sum_walkG (iter_intList hl fun s2 e2 st hfp hlI => ?_)
  subst e2
  refine ⟨_, _, _, _, _, _, numAt xs, rfl, walks_hot (A := A.in1) (x1 := x1) hh d1 c1 hlI (Nat.ne_of_lt lx) (intItems xs), ⟨st, Heap.get?_push_of_some _ g1⟩, fun b hb => ?_, (fun _ _ => intItems_at), fun h2 tk t2 hk => ?_⟩
  · rcases List.mem_cons.mp hb with rfl | hb
    · exact hfp _ (by simp)
    · rcases List.mem_cons.mp hb with rfl | hb
      · exact hfp _ (by simp)
      · cases List.mem_singleton.mp hb
        show x1 < (s.heap.push _).objs.size
        rw [Heap.size_push]
        exact Nat.lt_succ_of_lt lx
  · have z := k h2 tk t2 (old_kept hk)
    rw [← hn] at z
    have e3 : preSum (numAt xs) xs.size = (xs.toList.map (·.1)).sum := by
      rw [preSum_eq, List.take_of_length_le (by simp)]
    simpa [intItems, e3] using z
end
section
variable {X : Cx}
theorem cr_sumH (hot : HotC X) : CallR X (.builtin "sum") (rSum X.K) := by
  intro pins s σ H vs us Q I r h
  obtain ⟨a, ns, rfl, hs, q⟩ := h
  obtain ⟨its, rv, hl, _⟩ := I.list hs
  obtain ⟨x1, ht⟩ := hot.at I
  rw [Vals.ref1 r]
  exact sum_hot ht hl.isList rv.ints fun h2 tk t2 hk => ⟨.int _, H, I.kept hk, ⟨_, rfl⟩, q⟩
end
end RG
namespace RG
open PySem PySem.W PySem.Spec PySem.Calls PyProof.Rows
section
variable {prog : Program} {w : World} {A : Around} {E : Value → Shared → Prop} {s : Shared} {K : Frag} {x D : Addr} {ox : Obj}
theorem found_class {od : Option Obj} (C : L2.ExcC K D) : findObj K D od "__class__" = some (.bind (.builtin "getset_descriptor.__get__") (.builtin "object.__class__")) := by
  obtain ⟨cd, hc, _⟩ := any_some C.hd
  unfold findObj
  rw [hc, Option.bind_some, C.ha, Option.bind_some]
  simp [C.hn, C.ht]
/-- e.__class__, whatever the exception's own dict -/
theorem class_of {Q : Option Value → Shared → Prop} {od : Option Obj} (C : L2.ExcC K D) (X : K.In s.heap) (I : PySem.W.InstAt s.heap x ox D od) (q : Q (some (.ref D)) { s with toks := s.toks + 1 }) : wpAny (model prog w) A (getAttr? (.ref x) "__class__") Q E s := by
  obtain ⟨hp, g, d, t, os⟩ := s
  have T0 := I.type (M := model prog w)
  have T1 := looks_findIn (M := model prog w) X C.hg
  have T2 := looks_findIn (M := model prog w) X C.hk
  have T3 := looks_find (M := model prog w) X I (found_class (od := od) C)
  have T4 : Looks (model prog w) hp (isInstance (.ref x) (.type "BaseException")) true := T0.andThen (looks_subIn X C.hs)
  have b0 : (Value.builtin "BaseException.__getattribute__" == Value.builtin "object.__getattribute__") = false := by decide +kernel
  have b1 : (onTheHeap (Value.ref D) && Value.builtin "BaseException.__getattribute__" == Value.builtin "object.__getattribute__") = false := by rw [b0]; rfl
  have b2 : (false && onTheHeap (Value.builtin "BaseException.__getattribute__")) = false := rfl
  unfold getAttr? getAttrBy? getAttrBy
  refine wpAny_bind (wpAny_mkText (wpAny_bind (wpAny_attempt (wpAny_holding (wpAny_bind (T0.at (wpAny_bind (T1.at ?_))))))))
  show wpAny _ _ (if (onTheHeap (Value.ref D) && Value.builtin "BaseException.__getattribute__" == Value.builtin "object.__getattribute__") = true then _ else _) _ _ _; rw [b1, if_neg Bool.false_ne_true]
  unfold getAttrByItsOwn hookBefore
  have b3 : onTheHeap (Value.ref D) = true := rfl
  refine wpAny_bind ?_; rw [if_pos b3]
  refine T2.at (wpAny_bind (wpAny_attempt (wpAny_holding ?_)))
  unfold callGetattribute
  rw [b2, if_neg Bool.false_ne_true]
  unfold boundAndCalled
  rw [PySem.F.excAttr_ValueError.ga.bind (.ref x)]
  refine wpAny_bind (wpAny_pure (show wpAny _ _ (call (.builtin "BaseException.__getattribute__") [.ref x, .str "__class__" t]) _ _ _ from wpAny_call (codeAny_call_builtin PySem.F.excAttr_ValueError.ga.plain PySem.F.entry_bexc_ga ?_)))
  refine @check_slot (model prog w) _ _ ⟨hp, g, d, t + 1, os⟩ "BaseException.__getattribute__" "BaseException" "__getattribute__" (.ref x) [.str "__class__" t] [] _ (by decide +kernel) (by decide +kernel) T4 (PySem.F.args_bexc_ga (.ref x) (.str "__class__" t)) ?_
  unfold Builtin.«object.__getattribute__»
  refine wpAny_bind (wpAny_of_eq (a := ((Value.ref x : Value), [Value.str "__class__" t])) (by first | rfl | (simp only [slotArgs]; rfl)) (wpAny_bind (wpAny_pure (wpAny_bind (T0.at (wpAny_bind (T3.at ?_)))))))
  show wpAny _ _ (holding [Value.builtin "object.__class__"] (call (.builtin "getset_descriptor.__get__") [.builtin "object.__class__", .ref x, .ref D]) >>= ret) _ _ _
  refine wpAny_bind (wpAny_holding (wpAny_call (class_get (s := ⟨hp, g, d, t + 1, os⟩) (ox := ox) (od := od) X I C.hm (wpAny_pure ?_))))
  show wpAny _ _ (handedOut (.ref D)) _ _ _; rw [handedOut_of (v := .ref D) rfl]
  first
    | exact wpAny_pure (wpAny_pure q)
    | exact wpAny_pure q
    | exact wpAny_pure (wpAny_bind (wpAny_pure (wpAny_pure q)))
theorem kit_exc (C : L2.ExcC K D) : KitX K (.ref x) (.ref D) (fun h => ∃ od, PySem.W.InstAt h x ox D od) where
  ty := fun _ _ _ ⟨_, I⟩ => I.type
  it := fun _ _ X _ => by
    obtain ⟨cd, hc, _⟩ := any_some C.hd
    unfold clsIn at hc
    split at hc
    · rename_i lk
      exact fun _ _ _ _ k q => by
        unfold isType loadHead
        exact wpAny_bind (wpAny_loadPart (k _ _ (X _ _ lk)) (wpAny_pure q))
    · cases hc
  ne := fun h tp dd its n sl X htp => by
    obtain ⟨cd, hc, _⟩ := any_some C.hd
    refine Bool.eq_false_iff.mpr fun z => ?_
    cases Value.ref.inj (beq_iff_eq.mp z)
    unfold clsIn at hc
    split at hc
    · rename_i lk
      cases (X _ _ lk).symm.trans htp
    · cases hc
  ca := fun X ⟨_, I⟩ k => class_of C X I k
end
end RG
namespace RG
open PySem PySem.Spec PyProof.Rows L2 HotX L2H
/-- isinstance(e, c), e the exception that is handled -/
def rIsP (K : PySem.W.Frag) (D a : Addr) (d : Option Addr) : List V → Hp → VK → Prop := fun xs H Q => ∃ (c : V) (cv : Value) (b : Bool), xs = [.ref a, c] ∧ (∀ u, RelV c u → u = cv) ∧ PySem.W.kitOne K (.ref D) cv = some b ∧ (∀ dx, d = some dx → ∃ fs, H dx = some (.xd fs)) ∧ Q (.bl b) H
theorem call_isP {X : Cx} {p : Addr × Obj} {D : Addr} {d : Option Addr} (hp : p ∈ X.pn) (C : ExcC X.K D) (hz : Zc (.ref D) d p.2) (hf : ∃ vs, p.2.data = .fields vs) : CallR X (.builtin "isinstance") (rIsP X.K D p.1 d) := by
  intro pins s σ H xs us Q I r h
  obtain ⟨c, cv, b, rfl, hcv, e, hd, q⟩ := h
  cases r with
  | cons rx rr =>
  cases rr with
  | cons rt rr =>
  cases rr
  cases rx
  cases hcv _ rt
  obtain ⟨gp, _⟩ := I.pin p (List.mem_append_left _ hp)
  have J : ∃ od, PySem.W.InstAt s.heap p.1 p.2 D od := by
    obtain ⟨vs, hv⟩ := hf
    obtain ⟨h1, h2⟩ := hz
    have no : PySem.W.notCls p.2 = true := by
      obtain ⟨a, o⟩ := p
      obtain ⟨oc, odd, oda, osl⟩ := o
      dsimp only at hv
      subst hv
      rfl
    cases hdd : d with
    | none =>
      refine ⟨none, gp, h1, no, ?_⟩
      rw [h2, hdd]
      trivial
    | some dx =>
      obtain ⟨fs, hx⟩ := hd dx hdd
      have := I.hok dx _ hx
      obtain ⟨o, ho⟩ : ∃ o, s.heap.get? dx = some o := by
        obtain ⟨_, ⟨o, _, _, ho, _⟩, _⟩ := this
        exact ⟨o, ho⟩
      refine ⟨some o, gp, h1, no, ?_⟩
      rw [h2, hdd]
      exact ho
  exact PySem.W.kia_one (kit_exc (x := p.1) (ox := p.2) C) I.kIn J e (fun z => nomatch z) fun tk => ⟨.bl b, H, I.kept (t' := tk) fun _ _ z => z, rfl, q⟩
end RG
namespace RG
open PySem PySem.Spec PyProof.Rows L2 HotX L2H
/-! a def called in an except suite: its promise by the handled exception's object -/
structure FnW (P : Program) (w : World) (K : PySem.W.Frag) (mg : Str → Option Value) (base : Heap) (k : Nat) (f : Addr) (fd : FuncData) (ps : List Str) (sp : Addr × Obj → Sp) : Prop where
  len : ∀ p vs H Q E, sp p vs H Q E → vs.length = ps.length
  run : ∀ (A : Around) (outer : List Env) (s : Shared) (H : Hp) (args : Args) (us : List Value) (vs : List V) (Q : VK) (E : XK) (p : Addr × Obj), RoomH k A → Hot1 A p → PinOk outer H s p → Env0 P w K mg base A outer s H → BindsTo s fd args (ps.zip us) → Vals vs us → sp p vs H Q E →
    codeAny (model P w) A (.call (.ref f) args) (CR (CXN P w) outer P w H s Q E) s
theorem fnW_of {P : Program} {w : World} {K : PySem.W.Frag} {mg : Str → Option Value} {base : Heap} {k : Nat} {x : Str} {st : Stmt} {N ps : List Str} {sp : Addr × Obj → Sp} {fd : FuncData} (F : FunD K x x (defArgs st) (defBody st) (defScope st) [] [] (He.ga K x) fd) (S : FnScope N ps (defScope st))
    (len : ∀ p vs H Q E, sp p vs H Q E → vs.length = ps.length)
    (body : ∀ (cdv : Value) (A : Around) (outer : List Env) (s : Shared) (H : Hp) (vs : List V) (Q : VK) (E : XK) (p : Addr × Obj), Hot1 A p → RoomH k (A.deeper (envOfC x (defScope st) s.heap.objs.size (He.ga K x) cdv)) → sp p vs H Q E →
      ∃ t, PSs (cxH (CXN P w) P w K mg base N x (defScope st) (He.ga K x) cdv A outer s H E p) (defBody st) t ∧ t { nx := fun _ H' => Q .non H', rt := Q } (L2.start N vs) H) : FnW P w K mg base (k + 1) (He.ga K x) fd ps sp := by
  obtain ⟨oc, od, dV, kV, doc, pm, an, cdv, ct, osl, rfl, lk, hcd, _⟩ := F.ex
  refine ⟨len, fun A outer s H args us vs Q E p hr hot hpin e0 hb r hsp => ?_⟩
  have hl := len _ _ _ _ _ hsp
  have X0 : K.In s.heap := e0.mod.kin.keeps fun b o e => (e0.bs b o e).1
  have L0 : s.heap.NoLimit := e0.mod.nolimit.keeps fun b o e => (e0.bs b o e).1
  have kn : ∀ y ∈ ps.zip us, (defScope st).names.lookup y.1 = some .local ∨ ((defScope st).names.lookup y.1 = some .cell ∧ ((cellsFrom (s.heap.objs.size + 1) (defScope st).names []).lookup y.1).isSome = true) := fun ⟨n, v⟩ hy =>
    (S.par n (List.of_mem_zip hy).1).elim .inl fun q => .inr ⟨q, PySem.W.cellsFrom_some _ _ _ (.inl q)⟩
  refine codeAny_call_function hr.depth (X0 _ _ lk) rfl S.co S.gen rfl (PySem.W.codeRec_of X0 hcd) (hb _ _ _ _ (wpAny_newFunctionEnv_cells S.kind kn fun env he s1 x1 => ?_))
  subst he
  refine ⟨L0.keeps x1.toInCall.keep, codeAny_func ?_⟩
  obtain ⟨t, ht, hq⟩ := body cdv A outer s H vs Q E p hot (hr.deeper _) hsp
  have I : Inv (cxH (CXN P w) P w K mg base N x (defScope st) (He.ga K x) cdv A outer s H E p) [] (L2.start N vs) H s1 := inv_startH S hpin e0 hl r x1
  refine wpAny_mono (ht.run [] s1 (L2.start N vs) H _ I hq) (fun fl s2 hs => ?_) fun _ _ z => z
  cases fl with
  | ret u =>
    obtain ⟨v, _, H2, J, rv, q⟩ := hs
    exact ⟨v, H2, J.os, J.bare, J.base, J.hok, rv, q⟩
  | next =>
    obtain ⟨_, H2, J, q⟩ := hs
    exact ⟨.non, H2, J.os, J.bare, J.base, J.hok, rfl, q⟩
  | brk =>
    obtain ⟨_, _, _, q⟩ := hs
    exact q.elim
  | cont =>
    obtain ⟨_, _, _, q⟩ := hs
    exact q.elim
/-- x(e), the handled exception's object p -/
def tCallW (sp : Sp) (t : TA) : TE := fun σ H Q => t σ H fun vs H1 => sp vs H1 Q E0
theorem pe_callW {X : Cx} {k : Nat} {x : Str} {fd : FuncData} {ps : List Str} {sp : Addr × Obj → Sp} {q pos : Pos} {e : Expr} {es : List Expr} {t : TA} {p : Addr × Obj} (F : FnW X.prog X.w X.K X.mg X.base k (He.ga X.K x) fd ps sp) (b : BindsE fd ps) (kp : PySem.W.keepIn X.K (.ref (He.ga X.K x)) = true) (hm : X.mg x = some (.ref (He.ga X.K x)))
    (hr : RoomH k X.A) (hot : Hot1 X.A p) (hp : p ∈ X.pn) (ha : PA X (e :: es) t) (hg : Gl X x := by rfl) (hdb : (x == ("__debug__" : Str)) = false := by decide)
    (he : starEach (e :: es) X.env = (false, eval e X.env) :: starEach es X.env := by rfl) (hpl : (backTo pos (starEach es X.env)).any (·.1) = false := by rfl) :
    PE X (.Call (.Name x q) (e :: es) [] pos) (tCallW (sp p) t) := by
  refine ⟨fun pins s σ H Q I h => wpAny_Call_Name_kw (ld_glob I hg hm ?_ hdb)⟩
  refine PySem.W.callWith_K (h₀ := X.base) I.ok.mod.kin kp (thn (ha.run pos pins s σ H _ I h) fun us s1 ⟨vs, H1, I1, r, hsp⟩ => ⟨I1.kIn, ?_⟩) he hpl
  have hl : us.length = ps.length := by rw [← r.length]; exact F.len _ _ _ _ _ hsp
  obtain ⟨gp, np, fp, cp⟩ := hotC_pin hp I1
  refine wpAny_call (codeAny_mono (F.run X.A X.stack s1 H1 ⟨us, []⟩ us vs Q E0 p hr hot ⟨gp, np, fp, cp⟩ I1.env0 (b s1 us hl) r hsp) fun r s2 hq => ?_)
  cases r with
  | error z =>
    obtain ⟨_, _, _, _, _, _, _, _, _, _, _, _, z⟩ := hq
    exact z.elim
  | ok fl =>
    cases fl with
    | ret u => exact I1.after hq
    | next => exact False.elim hq
    | brk => exact False.elim hq
    | cont => exact False.elim hq
/-! try: .. except x as n: ..; except y as n: .. -/
/-- what such clauses wish of an exception: slot i is the name's -/
def wNm (K : PySem.W.Frag) (i : Nat) (Wout : WX) (D : Ends) : List (Value × (Addr → Value → Option Addr → TS)) → WX
  | [] => Wout
  | (c, ts) :: r => fun cls d σ H => ∃ b, PySem.W.exmOne K cls c = some b ∧ (b = true → ∀ a, H a = none → ts a cls d { nx := fun σ2 H2 => D.nx (σ2.set i none) H2, rt := D.rt, bk := fun σ2 H2 => D.bk (σ2.set i none) H2, ct := fun σ2 H2 => D.ct (σ2.set i none) H2 } (σ.set i (some (.ref a))) H) ∧ (b = false → wNm K i Wout D r cls d σ H)
inductive HdsNm (X : Cx) (n : Str) : List ExceptHandler → List (Value × (Addr → Value → Option Addr → TS)) → Prop
  | nil : HdsNm X n [] []
  | cons {x : Str} {c : Value} {ts : Addr → Value → Option Addr → TS} {b0 : Stmt} {suite : List Stmt} {np ps : Pos} {hds : List ExceptHandler} {l : List (Value × (Addr → Value → Option Addr → TS))} (hc : Names X x c)
      (hsu : ∀ (a : Addr) (oe : Obj) (cls : Value) (d : Option Addr) (pn : List (Addr × Obj)), L2N.Zn cls d oe → (∃ vs, oe.data = .fields vs) → PSs (X.suite a ((a, oe) :: pn)) (b0 :: suite) (ts a cls d)) (r : HdsNm X n hds l) :
      HdsNm X n (.ExceptHandler (some (.Name x np)) (some n) (b0 :: suite) ps :: hds) ((c, ts) :: l)
section
variable {X : Cx} {body : List Stmt} {h0 : ExceptHandler} {hds : List ExceptHandler} {l : List (Value × (Addr → Value → Option Addr → TS))} {pos : Pos} {tb : WX → TS} {Wout : WX} {n : Str} {i : Nat}
theorem ps_tryN (hs : X.stack = X.env :: X.outer) (hf : X.env.frame = some X.env.locals) (nd : X.N.Nodup) (hi : X.N[i]? = some n) (hln : X.env.kindOf n = some .local) (tk : L2N.Takes X Wout)
    (hb : ∀ (W : WX) (pn : List (Addr × Obj)) (xe : Value → Shared → Prop), L2N.Takes (X.tr pn xe) W → PSs (X.tr pn xe) body (tb W))
    (hh : HdsNm X n (h0 :: hds) l) : PS X (.Try body (h0 :: hds) [] [] pos) (fun D σ H => tb (wNm X.K i Wout D l) D σ H) := by
  refine ⟨fun pins s σ H D I h => ?_⟩
  have ok := I.ok
  have fr : X.A.frames = some (X.env :: X.outer) := by rw [ok.frames, hs]
  refine wpAny_Try_except (wpAny_mono ((hb (wNm X.K i Wout D l) (X.pn ++ pins) (fun e s1 => wpAny (model X.prog X.w) X.A (noteFrame e X.env) (fun _ s2 => wpAny (model X.prog X.w) X.A (setFlight e none) (fun _ s3 =>
    wpAny (model X.prog X.w) X.A (handleBy e X.env (h0 :: hds)) (SP X pins D) X.xe s3) X.xe s2) X.xe s1) (fun u s9 xx => ?_)).run [] s σ H D (I.toTry _) h) (fun f s1 hsp => ?_) (fun _ _ z => z))
  · obtain ⟨a, B, sI, pins2, σ2, H2, cls, d, rfl, J2, nb, up, sky, na, os, ag, w⟩ := xx
    have J : Inv X pins σ2 H2 sI := J2.ofTry ok
    have sky2 : Sky B (X.env :: X.outer) a (L2N.Zn cls d) X.env.locals s9.heap := by rw [← hs]; exact sky
    refine (show wpAny (model X.prog X.w) X.A (noteFrame (.ref a) X.env) _ _ _ from L2N.Sky.land L2N.Zn.steady fr hf sky2 fun h3 fl3 up3 => ?_)
    have J3 : Inv X pins σ2 H2 { s9 with heap := h3 } := J.landed nb fl3.1 (up.trans up3) os ag
    obtain ⟨oe3, vs3, he3, hz3, hd3⟩ := fl3.there
    have nfr : a ∉ frs (X.env :: X.outer) := fun hm => by
      obtain ⟨_, o2, e2, hnf⟩ := fl3.2.2.1.mem hm
      rw [he3] at e2
      cases e2
      exact hnf _ hd3
    have nL : a ≠ X.env.locals := fun z => nfr (List.mem_filterMap.mpr ⟨X.env, List.mem_cons_self, by rw [hf, z]⟩)
    have nF : a ∉ X.fs := fun hm => by
      obtain ⟨e, he, q⟩ := List.mem_filterMap.mp hm
      exact nfr (List.mem_filterMap.mpr ⟨e, List.mem_cons_of_mem _ he, q⟩)
    have S3 := J3.suite he3 hd3 na nL nF
    have go : ∀ {hs2 : List ExceptHandler} {l2 : List (Value × (Addr → Value → Option Addr → TS))}, HdsNm X n hs2 l2 → wNm X.K i Wout D l2 cls d σ2 H2 → wpAny (model X.prog X.w) X.A (handleBy (.ref a) X.env hs2) (SP X pins D) X.xe { s9 with heap := h3 } := by
      intro hs2 l2 hk
      induction hk with
      | nil =>
        intro w
        refine wpAny_handleBy_nil ?_
        obtain ⟨_, _, _, oe, vs, T, _, _, he, _, hd, h1, _⟩ := id fl3
        have nT : ¬ ((Value.ref T == Value.none) = true) := by simp
        unfold PySem.passOn
        refine wpAny_bind (wpAny_field he hd h1 ?_); rw [if_neg nT]
        have fin : wpAny (model X.prog X.w) X.A (setFlight (.ref a) X.env.frame) (fun _ s4 => wpAny (model X.prog X.w) X.A (throw (.ref a) : Sem Flow) (SP X pins D) X.xe s4) X.xe { s9 with heap := h3 } := by
          rw [hf]
          exact HandSPX.setFlight_upZ fl3 fun h4 hh4 up4 => wpAny_throw (tk _ _ ⟨a, B, sI, pins, σ2, H2, cls, d, rfl, J, nb, (up.trans up3).trans up4, .inr (.inr (by rw [hs]; exact hh4)), na, os, ag, w⟩)
        first
          | exact wpAny_bind (wpAny_pure (wpAny_bind fin))
          | exact wpAny_bind fin
      | @cons x c ts b0 suite np ps hds2 l2 hc hsu r ih =>
        intro w
        obtain ⟨b, hb1, hyes, hno⟩ := w
        refine wpAny_handleBy_cons (codeAny_handlers_test ?_) (by intro q; cases q)
        have LT : PySem.W.Looks (model X.prog X.w) h3 (typeOf (.ref a)) cls := fun A Q E s k q => wpAny_typeOf_ref (k _ _ he3) (by rw [hz3.1]; exact q)
        have LM := PySem.W.exm_one (M := model X.prog X.w) (J3.kIn) LT hb1
        have test : ∀ {Q : Value → Shared → Prop} {E : Value → Shared → Prop}, Q c { s9 with heap := h3 } → wpAny (model X.prog X.w) (X.A.mark (some (.ref a))) (eval (.Name x np) X.env) Q E { s9 with heap := h3 } := fun {Q E} q => by
          obtain ⟨hg, hdbg, hm | ⟨hm, hv, hnn⟩⟩ := hc
          · exact ld_glob (X := X.suite a ((a, oe3) :: (X.pn ++ pins))) S3 hg hm q hdbg
          · exact ld_blt (X := X.suite a ((a, oe3) :: (X.pn ++ pins))) S3 hg hm hv q hnn hdbg
        refine test (LM.here ?_)
        cases b with
        | true =>
          refine codeAny_handlers_suite_as (HandSPX.lands_againZ fl3 fun h4 fl4 up4 => ?_)
          have J4 : Inv X pins σ2 H2 { s9 with heap := h4 } := J.landed nb fl4.1 ((up.trans up3).trans up4) os ag
          obtain ⟨oe4, vs4, he4, hz4, hd4⟩ := fl4.there
          have S4 := J4.suite he4 hd4 na nL nF
          refine store_ok (X := X.suite a ((a, oe4) :: (X.pn ++ pins))) (v := .ref a) S4 nd hi (.inl hln) rfl (fun s5 S5 => ?_) (.inr hln)
          refine wpAny_mono ((hsu a oe4 cls d (X.pn ++ pins) hz4 ⟨_, hd4⟩).run [] s5 _ H2 _ S5 (hyes rfl a na)) (fun f s6 hsp => ?_) (fun _ _ z => z.elim)
          have fin : ∀ {σ6 : L2.St} {H6 : Hp} {Q : Shared → Prop}, Inv (X.suite a ((a, oe4) :: (X.pn ++ pins))) [] σ6 H6 s6 → (∀ s7, Inv X pins (σ6.set i none) H6 s7 → Q s7) →
            wpAny (model X.prog X.w) X.A (do bindName X.env n .none; unbindBehindTheSuite X.env n ps) (fun _ s7 => Q s7) X.xe s6 := fun {σ6 H6 Q} S6 hq => gone_ok (S6.unsuite ok) nd hi hln hq
          cases f with
          | next =>
            obtain ⟨_, _, S6, q6⟩ := hsp
            exact fin S6 fun _ J7 => ⟨_, _, J7, q6⟩
          | brk =>
            obtain ⟨_, _, S6, q6⟩ := hsp
            exact fin S6 fun _ J7 => ⟨_, _, J7, q6⟩
          | cont =>
            obtain ⟨_, _, S6, q6⟩ := hsp
            exact fin S6 fun _ J7 => ⟨_, _, J7, q6⟩
          | ret u =>
            obtain ⟨_, _, _, S6, r6, q6⟩ := hsp
            exact fin S6 fun _ J7 => ⟨_, _, _, J7, r6, q6⟩
        | false => exact (show wpAny _ X.A (handleBy (.ref a) X.env hds2) _ _ _ from ih (hno rfl))
    exact go hh w
  · cases f with
    | next =>
      obtain ⟨_, _, J2, q⟩ := hsp
      exact wpAny_execs_nil ⟨_, _, J2.ofTry ok, q⟩
    | brk =>
      obtain ⟨_, _, J2, q⟩ := hsp
      exact ⟨_, _, J2.ofTry ok, q⟩
    | cont =>
      obtain ⟨_, _, J2, q⟩ := hsp
      exact ⟨_, _, J2.ofTry ok, q⟩
    | ret u =>
      obtain ⟨_, _, _, J2, r, q⟩ := hsp
      exact ⟨_, _, _, J2.ofTry ok, r, q⟩
end
end RG
namespace RG
open PySem PySem.Spec PyProof.Rows L2 HotX L2H LamX
/-! a lambda whose errors keep what is known of their context -/
abbrev lamCxN (X : Cx) (A : Around) (outer : List Env) (s : Shared) (H : Hp) (E : XK) (scope : Scope) (f c2 : Addr) : Cx :=
  (lamCx X A outer s H E scope f c2).tr [] fun e s1 => wpAny (model X.prog X.w) (A.deeper (lamEnv X scope s.heap.objs.size f c2)) (leaving (lamEnv X scope s.heap.objs.size f c2) e) (fun _ s2 => CXN X.prog X.w outer H s E e s2) (fun e2 s2 => CXN X.prog X.w outer H s E e2 s2) s1
section
variable {X : Cx} {pins : List (Addr × Obj)} {σ : L2.St} {H HZ : Hp} {s s1 : Shared}
theorem pe_actN {Eg : XK} {Ng : List Str} {qg : Str} {sg : Scope} {g f c2 : Addr} {cdg pm ctv : Value} {params : Arguments} {body : Expr} {scope : Scope} {k i : Nat} {a : Str} {pn : List (Addr × Obj)} {xe : Value → Shared → Prop} {W : WX} {E : XK} {tb : TE} {p1 p2 : Pos}
    (I : Inv X pins σ H s) (L : LamS X.env.scope scope) (hf : s.heap.get? f = some (PySem.W.kla_obj "<lambda>" (X.env.qual ++ "<lambda>") params body scope (cloFrom X.env.cells scope.names []) pm c2 ctv)) (nf : H f = none) (fr : f ∉ frs X.stack)
    (hbind : bindArgs (PySem.W.kla_fn "<lambda>" (X.env.qual ++ "<lambda>") params body scope (cloFrom X.env.cells scope.names []) pm (.ref c2) ctv) ⟨[], []⟩ = pure [])
    (tk : L2N.Takes ((cxOf (CXN X.prog X.w) X.prog X.w X.K X.mg X.base Ng qg sg g cdg X.A X.stack s H Eg).tr pn xe) W) (hW : ∀ cls d (σ2 : L2.St) H2, σ2.length = Ng.length → E cls d H2 → W cls d σ2 H2) (hr : Room (k + 1) (X.A.deeper (envOfC qg sg s.heap.objs.size g cdg)))
    (hbody : ∀ (A : Around) (outer : List Env) (s : Shared) (H : Hp), Room k (A.deeper (lamEnv X scope s.heap.objs.size f c2)) → PE (lamCxN X A outer s H E scope f c2) body tb)
    (hN : Ng[i]? = some a) (hv : Vis sg a) (hd : (a == ("__debug__" : Str)) = false := by decide) (hcd : (a == ("__classdict__" : Str)) = false := by decide) :
    PE ((cxOf (CXN X.prog X.w) X.prog X.w X.K X.mg X.base Ng qg sg g cdg X.A X.stack s H Eg).tr pn xe) (.Call (.Name a p1) [] [] p2) (fun σZ HZ Q => σZ[i]? = some (some (.ref f)) ∧ HZ c2 = some (CodeO c2 (X.env.qual ++ "<lambda>")) ∧ tb σ HZ Q) := by
  refine ⟨fun pinsZ sZ σZ HZ Q IZ h => ?_⟩
  obtain ⟨hs, hc, ht⟩ := h
  refine wpAny_Call_Name_kw (thn ((pe_var (pos := p1) (i := i) hN hv hd hcd).run pinsZ sZ σZ HZ (fun v H1 => v = .ref f ∧ H1 = HZ) IZ ⟨.ref f, hs, rfl, rfl⟩) fun u s1 ⟨v, H1, I1, r1, ev, eH⟩ => ?_)
  subst ev
  rw [eH] at I1
  obtain rfl : u = Value.ref f := r1
  have g1 : s1.heap.get? f = some (PySem.W.kla_obj "<lambda>" (X.env.qual ++ "<lambda>") params body scope (cloFrom X.env.cells scope.names []) pm c2 ctv) := I1.base.keep f _ hf nf fr fun z => nomatch (show f ∈ ([] : List Addr) from z)
  have un : Un (frs X.stack) [] H HZ s.heap s1.heap := I1.base
  obtain ⟨⟨oc, vs, t, hoc, hdc, hvc⟩, _, _⟩ := I1.hok c2 _ hc
  have rc : codeAny (model X.prog X.w) (X.A.deeper (envOfC qg sg s.heap.objs.size g cdg)) (.call (.ref f) ⟨[], []⟩) (CR (CXN X.prog X.w) (envOfC qg sg s.heap.objs.size g cdg :: X.stack) X.prog X.w HZ s1 Q E) s1 := by
    refine PySem.W.kla_callFunE hr.depth g1 rfl L.co L.gen rfl ⟨c2, oc, vs, t, rfl, hoc, hdc, hvc⟩ ?_
    rw [hbind]
    refine wpAny_pure (wpAny_newFunctionEnv (fun y hy => (L.own y hy).2) (fun y hy => absurd hy (by simp)) (fun h2 hns hsb => ⟨I1.nolimit.fresh _ hsb, ?_⟩) L.kind)
    have kp : ∀ b o, s1.heap.get? b = some o → h2.get? b = some o := fun b o e => hsb.extBut b o (Nat.ne_of_lt (Heap.lt_size e)) (Heap.get?_push_of_some _ e)
    have J0 : Inv (lamCx X (X.A.deeper (envOfC qg sg s.heap.objs.size g cdg)) (envOfC qg sg s.heap.objs.size g cdg :: X.stack) s1 HZ E scope f c2) [] σ HZ { s1 with heap := h2, toks := s1.toks + ([] : List (Str × Value)).length } := lam_start2 I L I1.env0 hr.hd un hns kp
    have J : Inv (lamCxN X (X.A.deeper (envOfC qg sg s.heap.objs.size g cdg)) (envOfC qg sg s.heap.objs.size g cdg :: X.stack) s1 HZ E scope f c2) [] σ HZ { s1 with heap := h2, toks := s1.toks + ([] : List (Str × Value)).length } := J0.toTry _
    refine (show codeAny _ _ (.expr body (lamEnv X scope s1.heap.objs.size f c2)) _ _ from PySem.W.kla_codeExpr (wpAny_mono ((hbody _ _ s1 HZ (hr.deeper _)).run [] _ _ HZ Q J ht) (fun v s2 hq => ?_) fun _ _ hq => hq))
    obtain ⟨v2, H2, J2, rv, q⟩ := hq
    exact ⟨v2, H2, J2.os, J2.bare, J2.base, J2.hok, rv, q⟩
  refine PySem.W.callWith_F0 ⟨_, _, _, _, g1⟩ (wpAny_call (codeAny_mono rc fun r s2 hq => ?_))
  cases r with
  | error e => exact tk e s2 (L2N.XE.of_call I1 (fun cls d H3 h => hW cls d σZ H3 I1.len h) hq)
  | ok fl =>
    cases fl with
    | ret u => exact I1.after hq
    | next => exact False.elim hq
    | brk => exact False.elim hq
    | cont => exact False.elim hq
end
/-- the def that calls what it got; TT: what it makes of the lambda's reading -/
def GivesN (X : Cx) (k : Nat) (Ng : List Str) (x : Str) (sg : Scope) (g : Addr) (bg : List Stmt) (a : Str) (q : Str) (TT : (XK → Hp → VK → Prop) → Hp → VK → Prop) : Prop :=
  ∀ (cdg : Value) (f c2 : Addr) (s : Shared) (H : Hp) (Q : VK) (tl : XK → Hp → VK → Prop), Room k (X.A.deeper (envOfC x sg s.heap.objs.size g cdg)) →
    (∀ (W : WX) (pn : List (Addr × Obj)) (xe : Value → Shared → Prop) (E : XK) (p1 p2 : Pos), L2N.Takes ((cxOf (CXN X.prog X.w) X.prog X.w X.K X.mg X.base Ng x sg g cdg X.A X.stack s H E0).tr pn xe) W → (∀ cls d (σ2 : L2.St) H2, σ2.length = Ng.length → E cls d H2 → W cls d σ2 H2) →
      PE ((cxOf (CXN X.prog X.w) X.prog X.w X.K X.mg X.base Ng x sg g cdg X.A X.stack s H E0).tr pn xe) (.Call (.Name a p1) [] [] p2) (fun σZ HZ Q => σZ[0]? = some (some (.ref f)) ∧ HZ c2 = some (CodeO c2 q) ∧ tl E HZ Q)) →
    H c2 = some (CodeO c2 q) → TT tl H Q → ∃ t, PSs (cxOf (CXN X.prog X.w) X.prog X.w X.K X.mg X.base Ng x sg g cdg X.A X.stack s H E0) bg t ∧ t { nx := fun _ H2 => Q .non H2, rt := Q } (L2.start Ng [.ref f]) H
section
variable {X : Cx}
/-- x(lambda: body) -/
theorem pe_lamN {T : List (Addr × Str)} {TT : (XK → Hp → VK → Prop) → Hp → VK → Prop} {x a : Str} {st : Stmt} {fd : FuncData} {c P : Addr} {k : Nat} {Ng : List Str} {params : Arguments} {body : Expr} {scope : Scope} {t : XK → TE} {p lpos pos : Pos}
    (hm : X.mg x = some (.ref (He.ga X.K x))) (F : FunD X.K x x (defArgs st) (defBody st) (defScope st) [] [] (He.ga X.K x) fd) (hb : BindAll x st [a]) (Sg : FnScope Ng [a] (defScope st)) (hNg : Ng[0]? = some a) (hva : Vis (defScope st) a)
    (hG : GivesN X (k + 1) Ng x (defScope st) (He.ga X.K x) (defBody st) a (X.env.qual ++ "<lambda>") TT)
    (TB : TabB X.base X.mg c P) (hcode : X.env.code = .ref c) (hmT : (P, X.env.qual ++ "<lambda>") ∈ T) (hu : ∀ p ∈ T, p.1 = P → p.2 = X.env.qual ++ "<lambda>") (hr : Room (k + 2) X.A) (L : LamS X.env.scope scope) (hdef : defaultsOf params X.env = ([], []))
    (hbind : ∀ (q : Str) (cl : List (Str × Addr)) (pm cv ctv : Value), bindArgs (PySem.W.kla_fn "<lambda>" q params body scope cl pm cv ctv) ⟨[], []⟩ = pure [])
    (hbody : ∀ (A : Around) (outer : List Env) (s : Shared) (H : Hp) (E : XK) (f c2 : Addr), Room k (A.deeper (lamEnv X scope s.heap.objs.size f c2)) → PE (lamCxN X A outer s H E scope f c2) body (t E))
    (hg : Gl X x := by rfl) (hdb : (x == ("__debug__" : Str)) = false := by decide) (hd : (a == ("__debug__" : Str)) = false := by decide) (hcd : (a == ("__classdict__" : Str)) = false := by decide) :
    PE X (.Call (.Name x p) [.Lambda params body scope lpos] [] pos) (tLam T TT t) := by
  refine ⟨fun pins s σ H Q I h => ?_⟩
  obtain ⟨hT, h⟩ := h
  obtain ⟨oc, od, dV, kV, doc, pm, an, cdv, ct, osl, rfl, lk, hcg, _⟩ := F.ex
  refine wpAny_Call_Name_kw (ld_glob I hg hm (PySem.W.callWith_K (h₀ := X.base) I.ok.mod.kin F.kp ?_ (by rfl) (by rfl)) hdb)
  refine (show wpAny _ _ (spliced ((false, eval (.Lambda params body scope lpos) X.env) :: backTo pos (starEach [] X.env))) _ _ s from Calls.spliced_cons (lam_make2 I TB hcode hmT hu hT hdef (L.has I.ok) fun f c2 pm2 ctv H1 s1 I1 eN T1 hf nf fr hco => ?_))
  refine Calls.spliced_nil ⟨I1.kIn, ?_⟩
  have rc : codeAny (model X.prog X.w) X.A (.call (.ref (He.ga X.K x)) ⟨[.ref f], []⟩) (CR (CXN X.prog X.w) X.stack X.prog X.w H1 s1 Q E0) s1 :=
    run_ofS (N := Ng) (ps := [a]) (us := [.ref f]) (vs := [.ref f]) lk hcg Sg hr I1.env0 ((F.bindsA hb) s1 [.ref f] rfl) (.cons rfl .nil) rfl fun hr2 =>
      hG cdv f c2 s1 H1 Q (fun E H2 Q2 => t E σ H2 Q2) hr2 (fun W pn xe E p1 p2 tk hW => pe_actN (i := 0) I1 L hf nf fr (hbind _ _ _ _ _) tk hW hr2 (fun A outer s H hr3 => hbody A outer s H E f c2 hr3) hNg hva hd hcd) hco (h H1 eN T1)
  refine wpAny_call (codeAny_mono rc fun r s2 hq => ?_)
  cases r with
  | error e =>
    obtain ⟨_, _, _, _, _, _, _, _, _, _, _, _, z⟩ := hq
    exact z.elim
  | ok fl =>
    cases fl with
    | ret u => exact I1.after hq
    | next => exact False.elim hq
    | brk => exact False.elim hq
    | cont => exact False.elim hq
end
end RG
/-! ### refusals told: what _law_word and _law_told promise -/
namespace RG
open PySem PySem.Spec PyProof.Rows L2 HotX L2H LamX
def wnames : List Str := ["BadUser", "BadDeal", "BadCondition", "BadRules", "BadName", "BadNumber", "Known", "Needed", "Ring", "Full", "BadDay", "Nothing", "BadText"]
def excCB (K : PySem.W.Frag) (D : Addr) : Bool := decide (PySem.W.findIn K (.ref D) "__getattribute__" = some (some (.builtin "BaseException.__getattribute__"))) && (decide (PySem.W.findIn K (.ref D) "__getattr__" = some none) && (decide (PySem.W.subIn K (.ref D) (.type "BaseException") = some true) && (PySem.W.hasDictIn K D &&
  (decide (PySem.W.findIn K (.ref D) "__class__" = some (some (.builtin "object.__class__"))) && (decide (PySem.W.specialIn K (.builtin "object.__class__") "__get__" = some (some (.builtin "getset_descriptor.__get__"))) && (decide (PySem.W.takesIn K (.builtin "object.__class__") = some true) && decide (PySem.W.mroIn K D (.type "object") = some true)))))))
theorem excCB_ok {K : PySem.W.Frag} {D : Addr} (h : excCB K D = true) : ExcC K D := by
  simp only [excCB, Bool.and_eq_true, decide_eq_true_eq] at h
  obtain ⟨h1, h2, h3, h4, h5, h6, h7, h8⟩ := h
  exact ⟨h1, h2, h3, h4, h5, h6, h7, h8⟩
def wordB (K : PySem.W.Frag) : Bool := (wnames.all fun c => excCB K (He.ga K c) && (decide (PySem.W.kitOne K (.ref (He.ga K c)) (.type "ValueError") = some true) && (decide (PySem.W.exmOne K (.ref (He.ga K c)) (.ref (He.ga K "Needed")) = some (decide (c = "Needed"))) && (decide (PySem.W.exmOne K (.ref (He.ga K c)) (.ref (He.ga K "GateError")) = some true) &&
  wnames.all fun b => decide (PySem.W.kitOne K (.ref (He.ga K c)) (.ref (He.ga K b)) = some (decide (c = b))))))) && (xfB K (He.ga K "Needed") && decide (PySem.W.findIn K (.ref (He.ga K "Needed")) "by" = some none))
/-- what the refusals' classes say of one another -/
structure WordOk (K : PySem.W.Frag) : Prop where
  exc : ∀ c ∈ wnames, ExcC K (He.ga K c)
  val : ∀ c ∈ wnames, PySem.W.kitOne K (.ref (He.ga K c)) (.type "ValueError") = some true
  need : ∀ c ∈ wnames, PySem.W.exmOne K (.ref (He.ga K c)) (.ref (He.ga K "Needed")) = some (decide (c = "Needed"))
  gate : ∀ c ∈ wnames, PySem.W.exmOne K (.ref (He.ga K c)) (.ref (He.ga K "GateError")) = some true
  kit : ∀ c ∈ wnames, ∀ b ∈ wnames, PySem.W.kitOne K (.ref (He.ga K c)) (.ref (He.ga K b)) = some (decide (c = b))
  xf : XfC K (He.ga K "Needed")
  noby : PySem.W.findIn K (.ref (He.ga K "Needed")) "by" = some none
theorem wordB_ok {K : PySem.W.Frag} (h : wordB K = true) : WordOk K := by
  simp only [wordB, Bool.and_eq_true, List.all_eq_true, decide_eq_true_eq] at h
  obtain ⟨h1, h2, h3⟩ := h
  exact ⟨fun c hc => excCB_ok (h1 c hc).1, fun c hc => (h1 c hc).2.1, fun c hc => (h1 c hc).2.2.1, fun c hc => (h1 c hc).2.2.2.1, fun c hc => (h1 c hc).2.2.2.2, xfB_ok h2, h3⟩
/-- the word of a refusal: p the handled exception -/
def spWord (K : PySem.W.Frag) (p : Addr × Obj) : Sp := fun vs H Q _ => vs = [.ref p.1] ∧ ∃ (c : Str) (d : Option Addr), c ∈ wnames ∧ Zc (.ref (He.ga K c)) d p.2 ∧ (∃ ws, p.2.data = .fields ws) ∧ (∀ dx, d = some dx → ∃ fs, H dx = some (.xd fs)) ∧
  ∀ t H2, Same H H2 → H t = none → H2 t = some (.tup [.str "refused", .str c]) → Q (.ref t) H2
section
variable {K : PySem.W.Frag} {H : Hp} {Q : VK} {σ : L2.St}
theorem w_isP {D a : Addr} {d : Option Addr} {b : Str} {r : Bool} (e : PySem.W.kitOne K (.ref D) (.ref (He.ga K b)) = some r) (hd : ∀ dx, d = some dx → ∃ fs, H dx = some (.xd fs)) (h : Q (.bl r) H) : rIsP K D a d [.ref a, .ref (He.ga K b)] H Q :=
  ⟨_, .ref (He.ga K b), r, rfl, fun _ z => z, e, hd, h⟩
theorem w_isPT {D a : Addr} {d : Option Addr} {b : String} {r : Bool} (e : PySem.W.kitOne K (.ref D) (.type b) = some r) (hd : ∀ dx, d = some dx → ∃ fs, H dx = some (.xd fs)) (h : Q (.bl r) H) : rIsP K D a d [.ref a, .ty b] H Q :=
  ⟨_, .type b, r, rfl, fun _ z => z, e, hd, h⟩
theorem xd_s {H2 : Hp} {d : Option Addr} (hd : ∀ dx, d = some dx → ∃ fs, H dx = some (.xd fs)) (s : Same H H2) : ∀ dx, d = some dx → ∃ fs, H2 dx = some (.xd fs) := fun dx e => by
  obtain ⟨fs, h⟩ := hd dx e
  exact ⟨fs, s _ _ h⟩
theorem w_lcH {ti te : TE} {g : TG} {vs : List Nat} (h : ti σ H fun v H1 => ∃ (a : Addr) (xs ys : List V), v = .ref a ∧ H1 a = some (.lst xs) ∧ ys.length = xs.length ∧ xs.length ≤ 1000 ∧
    (∀ (j : Nat) (x y : V) (H2 : Hp), xs[j]? = some x → ys[j]? = some y → g x (wipe σ vs) H2 fun σ2 H3 => wipe σ2 vs = wipe σ vs ∧ te σ2 H3 fun z H4 => z = y ∧ H4 = H2) ∧ ∀ D, H1 D = none → Q (.ref D) (upd H1 D (.lst ys))) : tLcH K ti g te vs σ H Q := h
theorem huH {k : Nat} {A : Around} (hr : RoomH k A) : A.units + 65 < cLine := by
  have := hr.un
  omega
end
abbrev flagsL (c : Str) : List Bool := wnames.map fun b => decide (c = b)
theorem flags_sum : ∀ c ∈ wnames, ((flagsL c).map fun b => if b then (1 : Int) else 0).sum = 1 := by decide +kernel
theorem flags_ix : ∀ c ∈ wnames, ∃ j : Fin 13, wnames[j.val]? = some c ∧ (flagsL c)[j.val]? = some true ∧ ∀ m : Fin 13, m.val < j.val → (flagsL c)[m.val]? = some false := by decide +kernel
theorem dpAll_bools {K : PySem.W.Frag} {H : Hp} : ∀ bs : List Bool, DpAll K H (bs.map V.bl) (bs.map PyData.bool)
  | [] => .nil
  | b :: bs => .cons (.bl b) (dpAll_bools bs)
theorem canLay_bools : ∀ bs : List Bool, PyData.canLayAll0 (bs.map PyData.bool) = true
  | [] => rfl
  | b :: bs => by simp only [List.map_cons, PyData.canLayAll0, PyData.canLay0, canLay_bools bs, Bool.and_self]
theorem depth_bools : ∀ bs : List Bool, PyData.depthAll (bs.map PyData.bool) ≤ 1
  | [] => by simp [PyData.depthAll]
  | b :: bs => by
    have := depth_bools bs
    simp only [List.map_cons, PyData.depthAll, PyData.depth]
    omega
theorem shaped_bools (bs : List Bool) (h : bs.length ≤ 1000) : SeqAt.shaped (.list (bs.map PyData.bool)) = true := by
  have h2 := depth_bools bs
  have h3 : PyData.depth (.list (bs.map PyData.bool)) ≤ 64 := by
    simp only [PyData.depth]
    omega
  simp only [SeqAt.shaped, PyData.canLay0, canLay_bools bs, decide_eq_true h3, Bool.and_self]
/-- what is made of a refusal that a deed lets out -/
def toldE (K : PySem.W.Frag) (Q : VK) : XK := fun cls d H => ∃ c ∈ wnames, cls = .ref (He.ga K c) ∧ ((c ≠ "Needed" ∧ d = none ∧ ∀ t H2, Same H H2 → H t = none → H2 t = some (.tup [.str "refused", .str c]) → Q (.ref t) H2) ∨
  (c = "Needed" ∧ ∃ dx v, d = some dx ∧ H dx = some (.xd [("by", v)]) ∧ ∀ t H2, Same H H2 → H t = none → H2 t = some (.tup [.str "refused", .str "Needed", v]) → Q (.ref t) H2))
def toldT (K : PySem.W.Frag) : (XK → Hp → VK → Prop) → Hp → VK → Prop := fun tl H Q => tl (toldE K Q) H Q
/-- _law_word(e) in a suite -/
def tWord (K : PySem.W.Frag) (a : Addr) (cls : Value) (d : Option Addr) : TE := fun σ H Q => σ[1]? = some (some (.ref a)) ∧ ∃ c ∈ wnames, cls = .ref (He.ga K c) ∧ (∀ dx, d = some dx → ∃ fs, H dx = some (.xd fs)) ∧ ∀ t H2, Same H H2 → H t = none → H2 t = some (.tup [.str "refused", .str c]) → Q (.ref t) H2
theorem pe_word {X : Cx} {a : Addr} {oe : Obj} {cls : Value} {d : Option Addr} {pn : List (Addr × Obj)} {fd : FuncData} {k : Nat} {q p5 pos : Pos} (F : FnW X.prog X.w X.K X.mg X.base k (He.ga X.K "_law_word") fd ["e"] (spWord X.K)) (b : BindsE fd ["e"]) (kp : PySem.W.keepIn X.K (.ref (He.ga X.K "_law_word")) = true) (hm : X.mg "_law_word" = some (.ref (He.ga X.K "_law_word")))
    (hr : Room k X.A) (hz : L2N.Zn cls d oe) (hf : ∃ vs, oe.data = .fields vs) (he : PE (X.suite a ((a, oe) :: pn)) (.Name "e" q) (tVar 1)) (hg : Gl X "_law_word" := by rfl) (hst : starEach [.Name "e" q] X.env = (false, eval (.Name "e" q) X.env) :: starEach [] X.env := by rfl) :
    PE (X.suite a ((a, oe) :: pn)) (.Call (.Name "_law_word" p5) [.Name "e" q] [] pos) (tWord X.K a cls d) := by
  refine ⟨fun pins s σ H Q I h => ?_⟩
  obtain ⟨h1, c, hc, e, hd, q2⟩ := h
  obtain ⟨ws, hw⟩ := hf
  have hot : Hot1 (X.suite a ((a, oe) :: pn)).A (a, oe) := ⟨rfl, ws, hw, hz.2.2 ws hw⟩
  have P := pe_callW (X := X.suite a ((a, oe) :: pn)) (p := (a, oe)) (q := p5) (pos := pos) F b kp hm ⟨hr.dp, hr.un⟩ hot List.mem_cons_self (pa_cons he pa_nil) hg (by decide) hst (by rfl)
  exact P.run pins s σ H Q I ⟨.ref a, h1, rfl, c, d, hc, by rw [← e]; exact hz.zc, ⟨ws, hw⟩, hd, q2⟩
/-! heaps between told deeds: tables grow -/
/-- all but the dice at a and the tables stays -/
structure ButT (T : List (Addr × Str)) (a : Addr) (H H2 : Hp) : Prop where
  d0 : Dice H a
  d1 : Dice H2 a
  kp : ∀ b o, H b = some o → b ≠ a → (∀ ps, o ≠ .tbl ps) → H2 b = some o
  tb : Tabs T H → Tabs T H2
section
variable {T : List (Addr × Str)} {a : Addr} {H H1 H2 : Hp} {K : PySem.W.Frag}
theorem ButT.refl (d : Dice H a) : ButT T a H H := ⟨d, d, fun _ _ h _ _ => h, fun h => h⟩
theorem ButT.trans (b : ButT T a H H1) (c : ButT T a H1 H2) : ButT T a H H2 := ⟨b.d0, c.d1, fun x o h n m => c.kp x o (b.kp x o h n m) n m, fun h => c.tb (b.tb h)⟩
theorem ext_tabs (s : Same H H1) (h : Tabs T H) : Tabs T H1 := h.ext s
theorem But.tabs (b : But a H H1) (h : Tabs T H) : Tabs T H1 := fun p hp => by
  obtain ⟨x, k, hd⟩ := b.d0
  obtain ⟨ps, h1, h2, h3⟩ := h p hp
  have ne : ∀ z o, H z = some o → (∀ xs, o ≠ .lst xs) → z ≠ a := fun z o e n q => by
    rw [q, hd] at e
    cases e
    exact n _ rfl
  refine ⟨ps, b.kp _ _ h1 (ne _ _ h1 (fun xs z => by cases z)), h2, fun pos cv hc => ?_⟩
  obtain ⟨c, e1, e2⟩ := h3 pos cv hc
  exact ⟨c, e1, b.kp _ _ e2 (ne _ _ e2 (fun xs z => by unfold CodeO at z; cases z))⟩
theorem But.toT (b : But a H H1) : ButT T a H H1 := ⟨b.d0, b.d1, fun x o h n _ => b.kp x o h n, b.tabs⟩
theorem ButT.same (b : ButT T a H H1) (s : Same H1 H2) : ButT T a H H2 := ⟨b.d0, b.d1.same s, fun x o h n m => s _ _ (b.kp x o h n m), fun h => ext_tabs s (b.tb h)⟩
theorem Dice.extN (d : Dice H a) (e : ExtN H H1) : Dice H1 a := by
  obtain ⟨x, k, h⟩ := d
  exact ⟨x, k, e _ _ h fun ps z => by cases z⟩
theorem ButT.extN (b : ButT T a H H1) (e : ExtN H1 H2) (t : Tabs T H2) : ButT T a H H2 := ⟨b.d0, b.d1.extN e, fun x o h n m => e _ _ (b.kp x o h n m) m, fun _ => t⟩
theorem tup_nt {b : Addr} {xs : List V} {H H1 : Hp} (e : ∀ b o, H b = some o → (∀ ps, o ≠ .tbl ps) → (∀ ys, o ≠ .lst ys) → H1 b = some o) (h : SqT K H b xs) : SqT K H1 b xs := by
  rcases h with (h | ⟨o, h⟩) | h
  · exact .inl (.inl (e _ _ h (fun ps z => by cases z) fun ys z => by cases z))
  · exact .inl (.inr ⟨o, e _ _ h (fun ps z => by cases z) fun ys z => by cases z⟩)
  · exact .inr h
mutual
theorem dp_nt {H H1 : Hp} (e : ∀ b o, H b = some o → (∀ ps, o ≠ .tbl ps) → (∀ ys, o ≠ .lst ys) → H1 b = some o) : ∀ {v : V} {d : PyData}, imm d = true → Dp K H v d → Dp K H1 v d
  | _, _, _, .non => .non
  | _, _, _, .bl b => .bl b
  | _, _, _, .int i => .int i
  | _, _, _, .str x => .str x
  | _, _, i, .lst h a => by simp [imm] at i
  | _, _, i, .tup h a => .tup (tup_nt e h) (dps_nt e (by simpa [imm] using i) a)
theorem dps_nt {H H1 : Hp} (e : ∀ b o, H b = some o → (∀ ps, o ≠ .tbl ps) → (∀ ys, o ≠ .lst ys) → H1 b = some o) : ∀ {vs : List V} {ds : List PyData}, immAll ds = true → DpAll K H vs ds → DpAll K H1 vs ds
  | _, _, _, .nil => .nil
  | _, _, i, .cons a b => by
    simp [immAll] at i
    exact .cons (dp_nt e i.1 a) (dps_nt e i.2 b)
end
theorem ButT.nt (b : ButT T a H H1) : ∀ x o, H x = some o → (∀ ps, o ≠ .tbl ps) → (∀ ys, o ≠ .lst ys) → H1 x = some o := fun x o h m n => b.kp x o h (fun z => by
  obtain ⟨y, k, hd⟩ := b.d0
  rw [z, hd] at h
  cases h
  exact n _ rfl) m
theorem ButT.tup {b : Addr} {xs : List V} (s : ButT T a H H1) (h : SqT K H b xs) : SqT K H1 b xs := tup_nt s.nt h
theorem ButT.dp {v : V} {d : PyData} (s : ButT T a H H1) (i : imm d = true) (h : Dp K H v d) : Dp K H1 v d := dp_nt s.nt i h
theorem ButT.dps {vs : List V} {ds : List PyData} (s : ButT T a H H1) (i : immAll ds = true) (h : DpAll K H vs ds) : DpAll K H1 vs ds := dps_nt s.nt i h
theorem ButT.lst {b : Addr} {xs : List V} (s : ButT T a H H1) (n : b ≠ a) (h : H b = some (.lst xs)) : H1 b = some (.lst xs) := s.kp b _ h n fun ps z => by cases z
end
mutual
theorem dp_eN {K : PySem.W.Frag} {H H1 : Hp} (e : ExtN H H1) : ∀ {v : V} {d : PyData}, Dp K H v d → Dp K H1 v d
  | _, _, .non => .non
  | _, _, .bl b => .bl b
  | _, _, .int i => .int i
  | _, _, .str x => .str x
  | _, _, .lst h a => .lst (lst_eN e h) (dps_eN e a)
  | _, _, .tup h a => .tup (tup_nt (fun b o h m _ => e b o h m) h) (dps_eN e a)
theorem dps_eN {K : PySem.W.Frag} {H H1 : Hp} (e : ExtN H H1) : ∀ {vs : List V} {ds : List PyData}, DpAll K H vs ds → DpAll K H1 vs ds
  | _, _, .nil => .nil
  | _, _, .cons a b => .cons (dp_eN e a) (dps_eN e b)
theorem lst_eN {K : PySem.W.Frag} {H H1 : Hp} (e : ExtN H H1) {b : Addr} {xs : List V} (h : SqL K H b xs) : SqL K H1 b xs := by
  rcases h with (h | ⟨o, h⟩) | h
  · exact .inl (.inl (e _ _ h fun ps z => by cases z))
  · exact .inl (.inr ⟨o, e _ _ h fun ps z => by cases z⟩)
  · exact .inr h
end
/-- the rounds, tables growing -/
theorem rounds_goT {T : List (Addr × Str)} {K : PySem.W.Frag} {a L : Addr} {ds : List Addr} {tb : TS} {D : Ends} {H : Hp} {n : Nat} {w0 : List (Option V)} (hw : w0.length = n) (hT : Tabs T H) (hL : H L = some (.lst (ds.map V.ref))) (hds : ∀ d ∈ ds, d ≠ L ∧ Dice H d) (hd : ∀ σ' H', D.nx σ' H')
    (hbody : ∀ (w : List (Option V)) (H' : Hp) (d : Addr) (N : L2.St → Hp → Prop), w.length = n → Tabs T H' → Dice H' d → (∀ (w2 : List (Option V)) (H2 : Hp), w2.length = n → ButT T d H' H2 → N (some (.ref a) :: w2) H2) →
      tb { D with nx := N, ct := N, bk := D.nx } ((some (.ref a) :: w).set 1 (some (.ref d))) H') :
    ForGoal (Itl K L) (gName 1) tb D (some (.ref a) :: w0) H := by
  refine for_go (walk_list (K := K) (a := L) (xs := ds.map V.ref)) (fun i σ H' => (∃ w : List (Option V), w.length = n ∧ σ = some (.ref a) :: w) ∧ H' L = some (.lst (ds.map V.ref)) ∧ (∀ d ∈ ds, Dice H' d) ∧ Tabs T H') ⟨⟨w0, hw, rfl⟩, hL, fun d h => (hds d h).2, hT⟩ (fun i σ H' _ h => lstOf h.2.1) ?_ (fun σ H' _ => hd σ H')
  rintro i x σ H' H'' hi ⟨⟨w, hw', rfl⟩, hL', hds', hT'⟩ ⟨rfl, hx⟩
  rw [List.getElem?_map] at hx
  obtain ⟨d, hd1, rfl⟩ := Option.map_eq_some_iff.mp hx
  have hm := List.mem_of_getElem? hd1
  refine hbody w H'' d _ hw' hT' (hds' d hm) fun w2 H2 hw2 b => ⟨⟨w2, hw2, rfl⟩, b.lst ((hds d hm).1).symm hL', fun e he => ?_, b.tb hT'⟩
  by_cases hed : e = d
  · subst hed
    exact b.d1
  · obtain ⟨x, k, hx⟩ := hds' e he
    exact ⟨x, k, b.lst hed hx⟩
/-! defs that make lambdas -/
def lamQ (x : Str) : Str := x ++ ".<locals>." ++ "<lambda>"
/-- the tables of the defs that make lambdas -/
def tabL (K : PySem.W.Frag) (tf : List Str) : List (Addr × Str) := tf.map fun x => ((He.cT K (x, none)).2, lamQ x)
structure TLs (base : Heap) (mg : Str → Option Value) (K : PySem.W.Frag) (tf : List Str) : Prop where
  tb : ∀ x ∈ tf, TabB base mg (He.cT K (x, none)).1 (He.cT K (x, none)).2
  ap : ∀ x ∈ tf, ∀ y ∈ tf, (He.cT K (y, none)).2 = (He.cT K (x, none)).2 → y = x
def apartB (K : PySem.W.Frag) (tf : List Str) : Bool := tf.all fun x => tf.all fun y => decide (y = x) || !decide ((He.cT K (y, none)).2 = (He.cT K (x, none)).2)
theorem apartB_ok {K : PySem.W.Frag} {tf : List Str} (h : apartB K tf = true) : ∀ x ∈ tf, ∀ y ∈ tf, (He.cT K (y, none)).2 = (He.cT K (x, none)).2 → y = x := fun x hx y hy e => by
  simp only [apartB, List.all_eq_true, Bool.or_eq_true, decide_eq_true_eq, Bool.not_eq_true', decide_eq_false_iff_not] at h
  rcases h x hx y hy with z | z
  · exact z
  · exact absurd e z
def spLawT (K : PySem.W.Frag) (tf : List Str) : Sp := fun vs H Q _ => ∃ (a : Addr) (ns : List Int), vs = [.ref a] ∧ SqL K H a (ns.map V.int) ∧ ns.length ≤ 63 ∧ Tabs (tabL K tf) H ∧ ∀ H', Q (.bl true) H'
section
variable {P : Program} {w : World} {K : PySem.W.Frag} {mg : Str → Option Value} {base : Heap}
theorem Ok.mkL {x : Str} {st : Stmt} {N ps : List Str} {k : Nat} {sp : Sp} (G : mg x = some (.ref (He.ga K x))) (F : FnAt K x st) (b : BindAll x st ps) (S : FnScope N ps (defScope st)) (len : ∀ vs H Q E, sp vs H Q E → vs.length = ps.length)
    (body : ∀ (A : Around) (outer : List Env) (s : Shared) (H : Hp) (vs : List V) (Q : VK) (E : XK), Room k (A.deeper (envOfC x (defScope st) s.heap.objs.size (He.ga K x) (.ref (He.cT K (x, none)).1))) → sp vs H Q E →
      ∃ t, PSs (cxOf (CXN P w) P w K mg base N x (defScope st) (He.ga K x) (.ref (He.cT K (x, none)).1) A outer s H E) (defBody st) t ∧ t { nx := fun _ H' => Q .non H', rt := Q } (start N vs) H) : Ok P w K mg base (k + 1) x ps sp := by
  obtain ⟨fd, F⟩ := F
  have hb := F.bindsA b
  have kp := F.kp
  obtain ⟨oc, od, dV, kV, doc, pm, an, cdv, ct, osl, rfl, lk, hcd, _⟩ := F.ex
  have e : fdAt K (He.ga K x) = some (PySem.W.fnOf x x (defArgs st) (defBody st) (defScope st) dV kV doc pm an cdv ct) := by
    unfold fdAt
    rw [lk]
  obtain ⟨c, rfl⟩ : ∃ c, cdv = .ref c := by
    cases cdv with
    | ref c => exact ⟨c, rfl⟩
    | _ => cases hcd
  have ec : (He.cT K (x, none)).1 = c := He.codeOf_eq (p := (x, none)) lk rfl
  rw [ec] at body
  exact ⟨G, kp, _, e, hb, fn_of lk hcd S len body⟩
end
end RG
/-! ### data that a text writes down: shapes, evaluation -/
namespace RG
open PySem PySem.Spec PyProof.Rows L2 LamX
/-- fit to be compared and walked -/
structure Gd (n : Nat) (d : PyData) : Prop where
  lay : d.canLay0 = true
  dep : d.depth ≤ n
  nar : narrow d = true
structure GdAll (n : Nat) (ds : List PyData) : Prop where
  lay : PyData.canLayAll0 ds = true
  dep : PyData.depthAll ds ≤ n
  nar : narrowAll ds = true
theorem Gd.mono {n m : Nat} {d : PyData} (g : Gd n d) (h : n ≤ m) : Gd m d := ⟨g.lay, Nat.le_trans g.dep h, g.nar⟩
theorem gd_non {n : Nat} : Gd n .none := ⟨rfl, Nat.zero_le _, rfl⟩
theorem gd_int {n : Nat} {i : Int} : Gd n (.int i) := ⟨rfl, Nat.zero_le _, rfl⟩
theorem gd_bool {n : Nat} {b : Bool} : Gd n (.bool b) := ⟨rfl, Nat.zero_le _, rfl⟩
theorem gd_str {n : Nat} {z : Str} (h : PyData.canLay0 (.str z) = true) : Gd n (.str z) := ⟨h, Nat.zero_le _, rfl⟩
theorem gds_nil {n : Nat} : GdAll n [] := ⟨rfl, Nat.zero_le _, rfl⟩
theorem gds_cons {n : Nat} {d : PyData} {ds : List PyData} (a : Gd n d) (b : GdAll n ds) : GdAll n (d :: ds) := ⟨by simp only [PyData.canLayAll0, a.lay, b.lay, Bool.and_self], by simp only [PyData.depthAll]; have := a.dep; have := b.dep; omega, by simp only [narrowAll, a.nar, b.nar, Bool.and_self]⟩
theorem gds_mem {n : Nat} {ds : List PyData} (h : ∀ d ∈ ds, Gd n d) : GdAll n ds := ⟨canLayAll_mem fun d hd => (h d hd).lay, depthAll_le fun d hd => (h d hd).dep, narrowAll_of fun d hd => (h d hd).nar⟩
theorem gd_tup {n : Nat} {ds : List PyData} (h : GdAll n ds) (l : ds.length ≤ 1000) : Gd (n + 1) (.tuple ds) := ⟨h.lay, Nat.succ_le_succ h.dep, by simp only [narrow, h.nar, decide_eq_true l, Bool.and_self]⟩
theorem gd_list {n : Nat} {ds : List PyData} (h : GdAll n ds) (l : ds.length ≤ 1000) : Gd (n + 1) (.list ds) := ⟨h.lay, Nat.succ_le_succ h.dep, by simp only [narrow, h.nar, decide_eq_true l, Bool.and_self]⟩
theorem Gd.all {n : Nat} {ds : List PyData} (g : Gd (n + 1) (.tuple ds)) : GdAll n ds := ⟨g.lay, Nat.le_of_succ_le_succ g.dep, by have := g.nar; simp only [narrow, Bool.and_eq_true] at this; exact this.2⟩
theorem Gd.len {n : Nat} {ds : List PyData} (g : Gd n (.tuple ds)) : ds.length ≤ 1000 := by
  have := g.nar
  simp only [narrow, Bool.and_eq_true, decide_eq_true_eq] at this
  exact this.1
theorem Gd.sh {d : PyData} (g : Gd 64 d) : SeqAt.shaped d = true := by simp only [SeqAt.shaped, g.lay, decide_eq_true g.dep, Bool.and_self]
theorem Gd.ok {d : PyData} (g : Gd 64 d) : okD d = true := by simp only [okD, g.sh, g.nar, Bool.and_self]
theorem all_nil {P : PyData → Prop} : ∀ e ∈ ([] : List PyData), P e := fun _ h => nomatch h
theorem all_cons {P : PyData → Prop} {d : PyData} {ds : List PyData} (h : P d) (t : ∀ e ∈ ds, P e) : ∀ e ∈ d :: ds, P e := fun e he => by
  rcases List.mem_cons.mp he with rfl | he
  · exact h
  · exact t e he
theorem all_consT {P : PyData → Prop} {d : PyData} {ds : List PyData} (t : ∀ e ∈ ds, P e) (h : P d) : ∀ e ∈ d :: ds, P e := all_cons h t
theorem all_app {P : PyData → Prop} {ds es : List PyData} (h : ∀ e ∈ ds, P e) (t : ∀ e ∈ es, P e) : ∀ e ∈ ds ++ es, P e := fun e he => (List.mem_append.mp he).elim (h e) (t e)
theorem all_dp {K : PySem.W.Frag} {H : Hp} {vs : List V} {ds : List PyData} (P : PyData → Prop) (_ : DpAll K H vs ds) (h : ∀ e ∈ ds, P e) : ∀ e ∈ ds, P e := h
theorem all_at {P : PyData → Prop} {ds : List PyData} {i : Nat} {d : PyData} (h : ∀ e ∈ ds, P e) (e : ds[i]? = some d) : P d := h d (List.mem_of_getElem? e)
theorem len_ok {n : Nat} (h : decide (n ≤ 1000) = true) : n ≤ 1000 := of_decide_eq_true h
theorem eqvAll_self : ∀ {l : List PyData}, (∀ d ∈ l, PyData.eqv d d = true) → PyData.eqvAll l l = true
  | [], _ => rfl
  | d :: l, h => by
    have h2 : PyData.eqvAll l l = true := eqvAll_self fun x hx => h x (List.mem_cons_of_mem _ hx)
    simp only [PyData.eqvAll, h d (by simp), h2, Bool.and_self]
theorem eqv_listSelf {l : List PyData} (h : ∀ d ∈ l, PyData.eqv d d = true) : PyData.eqv (.list l) (.list l) = true := by
  simp only [PyData.eqv]
  exact eqvAll_self h
theorem eqv_intsSelf (ns : List Int) : PyData.eqv (.list (ns.map PyData.int)) (.list (ns.map PyData.int)) = true := eqv_listSelf fun d hd => by
  obtain ⟨n, _, rfl⟩ := List.mem_map.mp hd
  simp [PyData.eqv]
/-- evaluated to data, from any heap beyond H0 -/
def EvD (K : PySem.W.Frag) (te : TE) (σ : L2.St) (H0 : Hp) (d : PyData) : Prop := ∀ H, Same H0 H → ∀ Q : VK, (∀ v H2, Same H H2 → Dp K H2 v d → Q v H2) → te σ H Q
def EvDs (K : PySem.W.Frag) (ts : TA) (σ : L2.St) (H0 : Hp) (ds : List PyData) : Prop := ∀ H, Same H0 H → ∀ Q : List V → Hp → Prop, (∀ vs H2, Same H H2 → DpAll K H2 vs ds → Q vs H2) → ts σ H Q
/-- evaluated to a new list of data -/
def EvL (K : PySem.W.Frag) (te : TE) (σ : L2.St) (H0 : Hp) (ds : List PyData) : Prop := ∀ H, Same H0 H → ∀ Q : VK, (∀ p vs H2, Same H H2 → H p = none → H2 p = some (.lst vs) → DpAll K H2 vs ds → Q (.ref p) H2) → te σ H Q
section
variable {K : PySem.W.Frag} {σ : L2.St} {H0 : Hp} {d : PyData} {ds es : List PyData} {te tf : TE} {ts : TA}
theorem evd_non : EvD K (tC .non) σ H0 .none := fun H _ Q q => q _ H (Same.refl _) .non
theorem evd_int {i : Int} : EvD K (tC (.int i)) σ H0 (.int i) := fun H _ Q q => q _ H (Same.refl _) (.int i)
theorem evd_bl {b : Bool} : EvD K (tC (.bl b)) σ H0 (.bool b) := fun H _ Q q => q _ H (Same.refl _) (.bl b)
theorem evd_str {z : Str} : EvD K (tC (.str z)) σ H0 (.str z) := fun H _ Q q => q _ H (Same.refl _) (.str z)
theorem evd_neg {i : Int} : EvD K (tUn (rU fun i => .int (-i)) (tC (.int i))) σ H0 (.int (-i)) := fun H _ Q q => ⟨i, rfl, q _ H (Same.refl _) (.int _)⟩
theorem evd_vint {i : Nat} {n : Int} (e : σ[i]? = some (some (.int n))) : EvD K (tVar i) σ H0 (.int n) := fun H s Q q => ⟨_, e, q _ H (Same.refl _) (.int n)⟩
theorem evd_var {i : Nat} {v : V} (e : σ[i]? = some (some v)) (h : Dp K H0 v d) : EvD K (tVar i) σ H0 d := fun H s Q q => ⟨v, e, q v H (Same.refl _) (dp_s s h)⟩
theorem evds_nil : EvDs K tNil σ H0 [] := fun H _ Q q => q [] H (Same.refl _) .nil
theorem evds_cons (a : EvD K te σ H0 d) (b : EvDs K ts σ H0 ds) : EvDs K (tCons te ts) σ H0 (d :: ds) := fun H s Q q => a H s _ fun v H1 s1 h1 => b H1 (s.trans s1) _ fun vs H2 s2 h2 => q _ H2 (s1.trans s2) (.cons (dp_s s2 h1) h2)
theorem evd_tup (a : EvDs K ts σ H0 ds) (l : ds.length ≤ 1000) : EvD K (tTup ts) σ H0 (.tuple ds) := fun H s Q q => a H s _ fun vs H1 s1 h1 => ⟨sz (by rw [dpAll_len h1]; omega), fun p np => q _ _ (s1.trans (Same.new np)) (.tup (tupOf upd_same) (dps_s (Same.new np) h1))⟩
theorem evd_lst (a : EvDs K ts σ H0 ds) (l : ds.length ≤ 1000) : EvD K (tLst ts) σ H0 (.list ds) := fun H s Q q => a H s _ fun vs H1 s1 h1 => ⟨sz (by rw [dpAll_len h1]; omega), fun p np => q _ _ (s1.trans (Same.new np)) (.lst (lstOf upd_same) (dps_s (Same.new np) h1))⟩
theorem evd_list (a : EvD K te σ H0 (.tuple ds)) : EvD K (tCB (cList K) (tCons te tNil)) σ H0 (.list ds) := fun H s Q q => a H s _ fun v H1 s1 h1 => by
  obtain ⟨b, xs, rfl, hx, hxs⟩ := dp_tuple h1
  exact ⟨b, xs, rfl, .inr hx, fun p np => q _ _ (s1.trans (Same.new np)) (.lst (lstOf upd_same) (dps_s (Same.new np) hxs))⟩
theorem evd_tuple (a : EvL K te σ H0 ds) : EvD K (tCB (cTuple K) (tCons te tNil)) σ H0 (.tuple ds) := fun H s Q q => a H s _ fun p vs H1 s1 _ hp h1 => ⟨p, vs, rfl, .inl ⟨lstOf hp, fun t nt => q _ _ (s1.trans (Same.new nt)) (.tup (tupOf upd_same) (dps_s (Same.new nt) h1))⟩⟩
theorem evl_lst (a : EvDs K ts σ H0 ds) (l : ds.length ≤ 1000) : EvL K (tLst ts) σ H0 ds := fun H s Q q => a H s _ fun vs H1 s1 h1 => ⟨sz (by rw [dpAll_len h1]; omega), fun p np => q p vs _ (s1.trans (Same.new np)) (s1.free np) upd_same (dps_s (Same.new np) h1)⟩
theorem evl_cat {i : Nat} {a : Addr} {xs : List V} (e : σ[i]? = some (some (.ref a))) (ha : H0 a = some (.lst xs)) (hx : DpAll K H0 xs ds) (b : EvL K te σ H0 es) (l : ds.length + es.length ≤ 1000) : EvL K (tOp rCat (tVar i) te) σ H0 (ds ++ es) := fun H s Q q => ⟨.ref a, e, b H s _ fun p vs H1 s1 np hp h1 => by
  refine w_cat (s1 _ _ (s _ _ ha)) hp (by rw [dpAll_len hx, dpAll_len h1]; omega) fun c nc => q c _ _ (s1.trans (Same.new nc)) (s1.free nc) upd_same ?_
  exact dpAll_app (dps_s (Same.new nc) (dps_s s1 (dps_s s hx))) (dps_s (Same.new nc) h1)⟩
theorem evl_catL (a : EvL K te σ H0 ds) (b : EvL K tf σ H0 es) (l : ds.length + es.length ≤ 1000) : EvL K (tOp rCat te tf) σ H0 (ds ++ es) := fun H s Q q => a H s _ fun p vs H1 s1 np hp h1 => b H1 (s.trans s1) _ fun p2 vs2 H2 s2 np2 hp2 h2 => by
  refine w_cat (s2 _ _ hp) hp2 (by rw [dpAll_len h1, dpAll_len h2]; omega) fun c nc => q c _ _ ((s1.trans s2).trans (Same.new nc)) (s1.free (s2.free nc)) upd_same ?_
  exact dpAll_app (dps_s (Same.new nc) (dps_s s2 h1)) (dps_s (Same.new nc) h2)
theorem dpAll_rep {H : Hp} {vs : List V} (h : DpAll K H vs ds) : ∀ n : Nat, DpAll K H (List.replicate n vs).flatten (List.replicate n ds).flatten
  | 0 => .nil
  | n + 1 => by
    rw [List.replicate_succ, List.replicate_succ, List.flatten_cons, List.flatten_cons]
    exact dpAll_app h (dpAll_rep h n)
theorem evl_rep {m : Int} {n : Nat} (hm : m = (n : Int)) (a : EvL K te σ H0 ds) (l : ds.length * n ≤ 1000) (hn : n ≤ 1000) : EvL K (tOp rRep te (tC (.int m))) σ H0 (List.replicate n ds).flatten := fun H s Q q => a H s _ fun p vs H1 s1 np hp h1 => by
  subst hm
  refine ⟨p, (n : Nat), vs, rfl, rfl, hp, by omega, by omega, sz (by rw [Int.toNat_natCast, dpAll_len h1]; omega), fun c nc => ?_⟩
  rw [Int.toNat_natCast]
  refine q c _ _ (s1.trans (Same.new nc)) (s1.free nc) upd_same ?_
  exact dpAll_rep (dps_s (Same.new nc) h1) n
theorem evd_ofL (a : EvL K te σ H0 ds) : EvD K te σ H0 (.list ds) := fun H s Q q => a H s _ fun p vs H1 s1 _ hp h1 => q _ _ s1 (.lst (lstOf hp) h1)
theorem evl_list (a : EvD K te σ H0 (.tuple ds)) : EvL K (tCB (cList K) (tCons te tNil)) σ H0 ds := fun H s Q q => a H s _ fun v H1 s1 h1 => by
  obtain ⟨b, xs, rfl, hx, hxs⟩ := dp_tuple h1
  exact ⟨b, xs, rfl, .inr hx, fun p np => q p xs _ (s1.trans (Same.new np)) (s1.free np) upd_same (dps_s (Same.new np) hxs)⟩
theorem evd_repT {m : Int} {n : Nat} (hm : m = (n : Int)) (a : EvD K te σ H0 (.tuple ds)) (h2 : 2 ≤ n) (hn : n ≤ 1000) (l0 : ds ≠ []) (l : ds.length ≤ 1000) : EvD K (tOp (rRepT K) te (tC (.int m))) σ H0 (.tuple (List.replicate n ds).flatten) := fun H s Q q => a H s _ fun v H1 s1 h1 => by
  subst hm
  obtain ⟨b, xs, rfl, hx, hxs⟩ := dp_tuple h1
  have hl := dpAll_len hxs
  refine ⟨b, (n : Nat), xs, rfl, rfl, hx, fun z => l0 (by rw [z] at hl; exact List.eq_nil_of_length_eq_zero hl.symm), by omega, by omega, by omega, fun p np => ?_⟩
  rw [Int.toNat_natCast]
  exact q _ _ (s1.trans (Same.new np)) (.tup (tupOf upd_same) (dpAll_rep (dps_s (Same.new np) hxs) n))
theorem evd_use {H : Hp} {Q : VK} (a : EvD K te σ H d) (q : ∀ v H2, Same H H2 → Dp K H2 v d → Q v H2) : te σ H Q := a H (Same.refl _) Q q
theorem evl_use {H : Hp} {Q : VK} (a : EvL K te σ H ds) (q : ∀ p vs H2, Same H H2 → H p = none → H2 p = some (.lst vs) → DpAll K H2 vs ds → Q (.ref p) H2) : te σ H Q := a H (Same.refl _) Q q
/-- tables grow, all else stays -/
structure ExT (T : List (Addr × Str)) (H H2 : Hp) : Prop where
  ex : ExtN H H2
  tb : Tabs T H2
theorem ExT.same {T : List (Addr × Str)} {H H1 H2 : Hp} (a : ExT T H H1) (s : Same H1 H2) : ExT T H H2 := ⟨a.ex.trans (ExtN.of s), ext_tabs s a.tb⟩
theorem ExT.trans {T : List (Addr × Str)} {H H1 H2 : Hp} (a : ExT T H H1) (b : ExT T H1 H2) : ExT T H H2 := ⟨a.ex.trans b.ex, b.tb⟩
theorem ExT.refl {T : List (Addr × Str)} {H : Hp} (t : Tabs T H) : ExT T H H := ⟨ExtN.refl H, t⟩
/-- nothing but a table stands there -/
def NwT (H : Hp) (p : Addr) : Prop := ∀ u, H p = some u → ∃ ps, u = .tbl ps
theorem ExT.nw {T : List (Addr × Str)} {H H1 : Hp} {p : Addr} (a : ExT T H H1) (h : H1 p = none) : NwT H p := fun u e => Classical.byContradiction fun z => by
  rw [a.ex p u e fun ps w => z ⟨ps, w⟩] at h
  cases h
/-- a change of a list that H does not know -/
theorem ExT.mut {T : List (Addr × Str)} {H H1 : Hp} {p : Addr} {o : HO} {xs : List V} (a : ExT T H H1) (h : NwT H p) (hp : H1 p = some (.lst xs)) : ExT T H (upd H1 p o) := by
  refine ⟨fun b u e n => by rw [upd_ne (fun z => by obtain ⟨ps, w⟩ := h u (by rw [← z]; exact e); exact n ps w)]; exact a.ex b u e n, fun q hq => ?_⟩
  obtain ⟨ps, h1, h2, h3⟩ := a.tb q hq
  have ne : ∀ z u, H1 z = some u → (∀ xs, u ≠ .lst xs) → z ≠ p := fun z u e n w => by
    rw [w, hp] at e
    cases e
    exact n _ rfl
  refine ⟨ps, by rw [upd_ne (ne _ _ h1 fun xs z => by cases z)]; exact h1, h2, fun pos cv hc => ?_⟩
  obtain ⟨c, e1, e2⟩ := h3 pos cv hc
  exact ⟨c, e1, by rw [upd_ne (ne _ _ e2 fun xs z => by unfold CodeO at z; cases z)]; exact e2⟩
theorem ButT.exT {T : List (Addr × Str)} {a : Addr} {H H1 H2 : Hp} (b : ButT T a H H1) (e : ExT T H1 H2) : ButT T a H H2 := b.extN e.ex e.tb
/-- a told deed -/
theorem w_lam {T : List (Addr × Str)} {t : XK → TE} {H : Hp} {Q : VK} (hT : Tabs T H) (h : ∀ H1, ExT T H H1 → t (toldE K Q) σ H1 Q) : tLam T (toldT K) t σ H Q := ⟨hT, fun H1 e t1 => h H1 ⟨e, t1⟩⟩
theorem told_no {c : Str} {H : Hp} {Q : VK} (hc : c ∈ wnames) (hn : c ≠ "Needed") (h : ∀ t H2, Same H H2 → H t = none → H2 t = some (.tup [.str "refused", .str c]) → Q (.ref t) H2) : toldE K Q (.ref (He.ga K c)) none H := ⟨c, hc, rfl, .inl ⟨hn, rfl, h⟩⟩
abbrev refD (c : Str) : PyData := .tuple [.str "refused", .str c]
theorem refD_dp {c : Str} {H : Hp} {t : Addr} (h : H t = some (.tup [.str "refused", .str c])) : Dp K H (.ref t) (refD c) := .tup (tupOf h) (.cons (.str _) (.cons (.str _) .nil))
/-- a list of what was told, newer than H0 -/
structure Fnd (K : PySem.W.Frag) (T : List (Addr × Str)) (H0 : Hp) (F : Addr) (cs : List PyData) (H : Hp) : Prop where
  ex : ExT T H0 H
  nw : NwT H0 F
  is : ∃ xs, H F = some (.lst xs) ∧ DpAll K H xs cs
  im : immAll cs = true
theorem dps_eT {T : List (Addr × Str)} {H H1 : Hp} {vs : List V} (e : ExT T H H1) (h : DpAll K H vs ds) : DpAll K H1 vs ds := dps_eN e.ex h
theorem dp_eT {T : List (Addr × Str)} {H H1 : Hp} {v : V} (e : ExT T H H1) (h : Dp K H v d) : Dp K H1 v d := dp_eN e.ex h
theorem lst_eT {T : List (Addr × Str)} {H H1 : Hp} {a : Addr} {xs : List V} (e : ExT T H H1) (h : H a = some (.lst xs)) : H1 a = some (.lst xs) := e.ex _ _ h fun ps z => by cases z
theorem tup_eT {T : List (Addr × Str)} {H H1 : Hp} {a : Addr} {xs : List V} (e : ExT T H H1) (h : SqT K H a xs) : SqT K H1 a xs := tup_nt (fun b o h m _ => e.ex b o h m) h
/-- found = [x] -/
theorem fnd_new {T : List (Addr × Str)} {H0 H : Hp} {v : V} {Q : VK} (e : ExT T H0 H) (hv : Dp K H v d) (hi : imm d = true) (q : ∀ F H2, Fnd K T H0 F [d] H2 → Same H H2 → Q (.ref F) H2) : NewL [v] H Q :=
  w_newL (by simp) fun F H2 s nF hF => q F H2 ⟨e.same s, e.nw nF, ⟨_, hF, .cons (dp_s s hv) .nil⟩, by simp [immAll, hi]⟩ s
/-- found.append(x) -/
theorem fnd_app {T : List (Addr × Str)} {H0 H1 H : Hp} {F : Addr} {v : V} {cs : List PyData} {Q : VK} (f : Fnd K T H0 F cs H1) (e : ExT T H1 H) (hv : Dp K H v d) (hi : imm d = true) (hl : cs.length < 1000) (q : ∀ H2, Fnd K T H0 F (cs ++ [d]) H2 → Q .non H2) : rAppend (.ref F) [v] H Q := by
  obtain ⟨xs, hF, hx⟩ := f.is
  have hF2 := lst_eT e hF
  have hx2 := dps_eT e hx
  have him : immAll (cs ++ [d]) = true := by
    rw [immAll_app, f.im]
    simp [immAll, hi]
  refine w_app hF2 (by rw [dpAll_len hx]; omega) (q _ ⟨(f.ex.trans e).mut f.nw hF2, f.nw, ⟨_, upd_same, ?_⟩, him⟩)
  exact dpAll_mut hF2 him (dpAll_app hx2 (.cons hv .nil))
theorem Fnd.ty {T : List (Addr × Str)} {H0 H : Hp} {F : Addr} {cs : List PyData} (f : Fnd K T H0 F cs H) : tyV K "list" (.ref F) H := by
  obtain ⟨xs, hF, _⟩ := f.is
  exact tyL hF
theorem Fnd.dp {T : List (Addr × Str)} {H0 H : Hp} {F : Addr} {cs : List PyData} (f : Fnd K T H0 F cs H) : Dp K H (.ref F) (.list cs) := by
  obtain ⟨xs, hF, hx⟩ := f.is
  exact .lst (lstOf hF) hx
/-- [e for x in range(n)] -/
theorem evl_rng {m : Int} {n i : Nat} {vs : List Nat} {f : Nat → PyData} (hm : m = (n : Int)) (hn : n ≤ 1000) (him : ∀ j, imm (f j) = true) (hw : ∀ j : Nat, wipe ((wipe σ vs).set i (some (.int (0 + (j : Int))))) vs = wipe σ vs) (he : ∀ j : Nat, EvD K te ((wipe σ vs).set i (some (.int (0 + (j : Int))))) H0 (f j)) :
    EvL K (tLc (iRng1 (tCons (tC (.int m)) tNil)) (gName i) tYes te vs) σ H0 ((List.range n).map f) := fun H s Q q => by
  subst hm
  refine w_lc ⟨(n : Nat), rfl, by omega, by omega, ?_⟩
  rw [Int.toNat_natCast]
  refine lc_data (K := K) walk_range (by omega) ((List.range n).map fun j => [f j]) (by simp) (fun _ _ => trivial) ?_ ?_
  · rintro D j acc x H1 H2 hD hj hacc hH1 iv ⟨rfl, rfl⟩
    refine ⟨hw j, ?_⟩
    refine w_yes (if_t rfl (he j _ (s.trans iv.1) _ fun v H3 s3 hv => ?_))
    refine lcd_nx hD (by omega) hacc hH1 iv s3 hv ?_ ?_
    · rw [flat_oneD f]
      refine immAll_mem fun d hd => ?_
      obtain ⟨j, _, rfl⟩ := List.mem_map.mp hd
      exact him j
    · rw [List.getElem?_map, List.getElem?_range hj]
      rfl
  · intro D acc H1 hD s1 hD1 hacc
    rw [flat_oneD f] at hacc
    exact q D acc H1 s1 hD hD1 hacc
end
end RG
/-! ### data that outlive changes of some lists (the dice, things that grow): no list of them is one of those -/
namespace RG
open PySem PySem.Spec PyProof.Rows L2 LamX
/-- lists stand at A -/
def LsA (A : Addr → Prop) (H : Hp) : Prop := ∀ b, A b → ∃ xs, H b = some (.lst xs)
/-- all but what stands at A, and tables, stays -/
def KpB (A : Addr → Prop) (H H2 : Hp) : Prop := ∀ b o, H b = some o → ¬ A b → (∀ ps, o ≠ .tbl ps) → H2 b = some o
mutual
inductive KD (K : PySem.W.Frag) (A : Addr → Prop) (H : Hp) : V → PyData → Prop
  | non : KD K A H .non .none
  | bl (b : Bool) : KD K A H (.bl b) (.bool b)
  | int (i : Int) : KD K A H (.int i) (.int i)
  | str (z : Str) : KD K A H (.str z) (.str z)
  | lst {b : Addr} {vs : List V} {ds : List PyData} (n : ¬ A b) (h : SqL K H b vs) (t : KDs K A H vs ds) : KD K A H (.ref b) (.list ds)
  | tup {b : Addr} {vs : List V} {ds : List PyData} (h : SqT K H b vs) (t : KDs K A H vs ds) : KD K A H (.ref b) (.tuple ds)
inductive KDs (K : PySem.W.Frag) (A : Addr → Prop) (H : Hp) : List V → List PyData → Prop
  | nil : KDs K A H [] []
  | cons {v : V} {vs : List V} {d : PyData} {ds : List PyData} (h : KD K A H v d) (t : KDs K A H vs ds) : KDs K A H (v :: vs) (d :: ds)
end
section
variable {K : PySem.W.Frag} {A : Addr → Prop} {H H1 H2 : Hp}
theorem KpB.refl : KpB A H H := fun _ _ h _ _ => h
theorem KpB.trans (x : KpB A H H1) (y : KpB A H1 H2) : KpB A H H2 := fun b o h n m => y b o (x b o h n m) n m
theorem kpb_same (s : Same H H1) : KpB A H H1 := fun b o h _ _ => s b o h
theorem kpb_butT {T : List (Addr × Str)} {a : Addr} (s : ButT T a H H1) (ha : A a) : KpB A H H1 := fun b o h n m => s.kp b o h (fun z => n (by rw [z]; exact ha)) m
theorem kpb_but {a : Addr} (s : But a H H1) (ha : A a) : KpB A H H1 := fun b o h n _ => s.kp b o h fun z => n (by rw [z]; exact ha)
theorem LsA.same (l : LsA A H) (s : Same H H1) : LsA A H1 := fun b hb => by
  obtain ⟨xs, h⟩ := l b hb
  exact ⟨xs, s _ _ h⟩
theorem LsA.ne (l : LsA A H) {p : Addr} (h : H p = none) : ¬ A p := fun hp => by
  obtain ⟨xs, e⟩ := l p hp
  rw [h] at e
  cases e
theorem kpb_exT {T : List (Addr × Str)} (s : ExT T H H1) : KpB A H H1 := fun b o h _ m => s.ex b o h m
/-- a change of a list that H does not know -/
theorem KpB.mut {p : Addr} {o : HO} (x : KpB A H H1) (n : NwT H p) : KpB A H (upd H1 p o) := fun b u h nb m => by
  rw [upd_ne (fun z => by obtain ⟨ps, w⟩ := n u (by rw [← z]; exact h); exact m ps w)]
  exact x b u h nb m
theorem kpb_sqL {b : Addr} {xs : List V} (s : KpB A H H1) (n : ¬ A b) (h : SqL K H b xs) : SqL K H1 b xs := by
  rcases h with (h | ⟨o, h⟩) | h
  · exact .inl (.inl (s _ _ h n fun ps z => by cases z))
  · exact .inl (.inr ⟨o, s _ _ h n fun ps z => by cases z⟩)
  · exact .inr h
theorem kpb_sqT {b : Addr} {xs : List V} (s : KpB A H H1) (hd : LsA A H) (h : SqT K H b xs) : SqT K H1 b xs := by
  rcases h with (h | ⟨o, h⟩) | h
  · exact .inl (.inl (s _ _ h (fun z => by obtain ⟨xs, e⟩ := hd b z; rw [e] at h; cases h) fun ps z => by cases z))
  · exact .inl (.inr ⟨o, s _ _ h (fun z => by obtain ⟨xs, e⟩ := hd b z; rw [e] at h; cases h) fun ps z => by cases z⟩)
  · exact .inr h
mutual
theorem KD.mono (s : KpB A H H1) (hd : LsA A H) : ∀ {v : V} {d : PyData}, KD K A H v d → KD K A H1 v d
  | _, _, .non => .non
  | _, _, .bl b => .bl b
  | _, _, .int i => .int i
  | _, _, .str z => .str z
  | _, _, .lst n h t => .lst n (kpb_sqL s n h) (KDs.mono s hd t)
  | _, _, .tup h t => .tup (kpb_sqT s hd h) (KDs.mono s hd t)
theorem KDs.mono (s : KpB A H H1) (hd : LsA A H) : ∀ {vs : List V} {ds : List PyData}, KDs K A H vs ds → KDs K A H1 vs ds
  | _, _, .nil => .nil
  | _, _, .cons h t => .cons (KD.mono s hd h) (KDs.mono s hd t)
end
mutual
theorem KD.dp : ∀ {v : V} {d : PyData}, KD K A H v d → Dp K H v d
  | _, _, .non => .non
  | _, _, .bl b => .bl b
  | _, _, .int i => .int i
  | _, _, .str z => .str z
  | _, _, .lst n h t => .lst h (KDs.dp t)
  | _, _, .tup h t => .tup h (KDs.dp t)
theorem KDs.dp : ∀ {vs : List V} {ds : List PyData}, KDs K A H vs ds → DpAll K H vs ds
  | _, _, .nil => .nil
  | _, _, .cons h t => .cons (KD.dp h) (KDs.dp t)
end
mutual
theorem kdv_imm : ∀ {v : V} {d : PyData}, imm d = true → Dp K H v d → KD K A H v d
  | _, _, _, .non => .non
  | _, _, _, .bl b => .bl b
  | _, _, _, .int i => .int i
  | _, _, _, .str x => .str x
  | _, _, i, .lst h t => by simp [imm] at i
  | _, _, i, .tup h t => .tup h (kdvs_imm (by simpa [imm] using i) t)
theorem kdvs_imm : ∀ {vs : List V} {ds : List PyData}, immAll ds = true → DpAll K H vs ds → KDs K A H vs ds
  | _, _, _, .nil => .nil
  | _, _, i, .cons h t => by
    simp [immAll] at i
    exact .cons (kdv_imm i.1 h) (kdvs_imm i.2 t)
end
theorem KDs.len : ∀ {vs : List V} {ds : List PyData}, KDs K A H vs ds → vs.length = ds.length
  | _, _, .nil => rfl
  | _, _, .cons _ t => by simp [KDs.len t]
theorem KDs.app : ∀ {vs us : List V} {ds es : List PyData}, KDs K A H vs ds → KDs K A H us es → KDs K A H (vs ++ us) (ds ++ es)
  | _, _, _, _, .nil, h => h
  | _, _, _, _, .cons x t, h => .cons x (KDs.app t h)
theorem KDs.getV : ∀ {vs : List V} {ds : List PyData} {i : Nat} {v : V}, KDs K A H vs ds → vs[i]? = some v → ∃ d, ds[i]? = some d ∧ KD K A H v d
  | _, _, _, _, .nil, e => by simp at e
  | _, _, 0, _, .cons x _, e => by
    simp at e
    subst e
    exact ⟨_, rfl, x⟩
  | _, _, i + 1, v, .cons _ t, e => by
    obtain ⟨d, h1, h2⟩ := KDs.getV (i := i) t (by simpa using e)
    exact ⟨d, by simpa using h1, h2⟩
end
theorem tabs_mut {T : List (Addr × Str)} {H : Hp} {p : Addr} {o : HO} {xs : List V} (t : Tabs T H) (hp : H p = some (.lst xs)) : Tabs T (upd H p o) := fun q hq => by
  obtain ⟨ps, h1, h2, h3⟩ := t q hq
  have ne : ∀ z u, H z = some u → (∀ xs, u ≠ .lst xs) → z ≠ p := fun z u e n w => by
    rw [w, hp] at e
    cases e
    exact n _ rfl
  refine ⟨ps, by rw [upd_ne (ne _ _ h1 fun xs z => by cases z)]; exact h1, h2, fun pos cv hc => ?_⟩
  obtain ⟨c, e1, e2⟩ := h3 pos cv hc
  exact ⟨c, e1, by rw [upd_ne (ne _ _ e2 fun xs z => by unfold CodeO at z; cases z)]; exact e2⟩
/-- evaluated to such data -/
def EvK (K : PySem.W.Frag) (A : Addr → Prop) (te : TE) (σ : L2.St) (H0 : Hp) (d : PyData) : Prop := ∀ H, Same H0 H → ∀ Q : VK, (∀ v H2, Same H H2 → KD K A H2 v d → Q v H2) → te σ H Q
def EvKs (K : PySem.W.Frag) (A : Addr → Prop) (ts : TA) (σ : L2.St) (H0 : Hp) (ds : List PyData) : Prop := ∀ H, Same H0 H → ∀ Q : List V → Hp → Prop, (∀ vs H2, Same H H2 → KDs K A H2 vs ds → Q vs H2) → ts σ H Q
def EvKL (K : PySem.W.Frag) (A : Addr → Prop) (te : TE) (σ : L2.St) (H0 : Hp) (ds : List PyData) : Prop := ∀ H, Same H0 H → ∀ Q : VK, (∀ p vs H1 H2, Same H H1 → Same H1 H2 → H1 p = none → H2 p = some (.lst vs) → KDs K A H1 vs ds → Q (.ref p) H2) → te σ H Q
section
variable {K : PySem.W.Frag} {A : Addr → Prop} {σ : L2.St} {H0 : Hp} {d : PyData} {ds es : List PyData} {te tf : TE} {ts : TA}
theorem evk_non : EvK K A (tC .non) σ H0 .none := fun H _ Q q => q _ H (Same.refl _) .non
theorem evk_int {i : Int} : EvK K A (tC (.int i)) σ H0 (.int i) := fun H _ Q q => q _ H (Same.refl _) (.int i)
theorem evk_bl {b : Bool} : EvK K A (tC (.bl b)) σ H0 (.bool b) := fun H _ Q q => q _ H (Same.refl _) (.bl b)
theorem evk_str {z : Str} : EvK K A (tC (.str z)) σ H0 (.str z) := fun H _ Q q => q _ H (Same.refl _) (.str z)
theorem evk_neg {i : Int} : EvK K A (tUn (rU fun i => .int (-i)) (tC (.int i))) σ H0 (.int (-i)) := fun H _ Q q => ⟨i, rfl, q _ H (Same.refl _) (.int _)⟩
theorem evk_vint {i : Nat} {n : Int} (e : σ[i]? = some (some (.int n))) : EvK K A (tVar i) σ H0 (.int n) := fun H s Q q => ⟨_, e, q _ H (Same.refl _) (.int n)⟩
theorem evk_var {i : Nat} {v : V} (e : σ[i]? = some (some v)) (hd : LsA A H0) (h : KD K A H0 v d) : EvK K A (tVar i) σ H0 d := fun H s Q q => ⟨v, e, q v H (Same.refl _) (h.mono (kpb_same s) hd)⟩
theorem evks_nil : EvKs K A tNil σ H0 [] := fun H _ Q q => q [] H (Same.refl _) .nil
theorem evks_cons (hd : LsA A H0) (x : EvK K A te σ H0 d) (y : EvKs K A ts σ H0 ds) : EvKs K A (tCons te ts) σ H0 (d :: ds) := fun H s Q q => x H s _ fun v H1 s1 h1 => y H1 (s.trans s1) _ fun vs H2 s2 h2 => q _ H2 (s1.trans s2) (.cons (h1.mono (kpb_same s2) (hd.same (s.trans s1))) h2)
theorem evk_tup (hd : LsA A H0) (x : EvKs K A ts σ H0 ds) (l : ds.length ≤ 1000) : EvK K A (tTup ts) σ H0 (.tuple ds) := fun H s Q q => x H s _ fun vs H1 s1 h1 => ⟨sz (by rw [h1.len]; omega), fun p np => q _ _ (s1.trans (Same.new np)) (.tup (tupOf upd_same) (h1.mono (kpb_same (Same.new np)) (hd.same (s.trans s1))))⟩
theorem evk_lst (hd : LsA A H0) (x : EvKs K A ts σ H0 ds) (l : ds.length ≤ 1000) : EvK K A (tLst ts) σ H0 (.list ds) := fun H s Q q => x H s _ fun vs H1 s1 h1 => ⟨sz (by rw [h1.len]; omega), fun p np => q _ _ (s1.trans (Same.new np)) (.lst ((hd.same (s.trans s1)).ne np) (lstOf upd_same) (h1.mono (kpb_same (Same.new np)) (hd.same (s.trans s1))))⟩
theorem evk_list (hd : LsA A H0) (x : EvK K A te σ H0 (.tuple ds)) : EvK K A (tCB (cList K) (tCons te tNil)) σ H0 (.list ds) := fun H s Q q => x H s _ fun v H1 s1 h1 => by
  cases h1 with
  | tup h t => exact ⟨_, _, rfl, .inr h, fun p np => q _ _ (s1.trans (Same.new np)) (.lst ((hd.same (s.trans s1)).ne np) (lstOf upd_same) (t.mono (kpb_same (Same.new np)) (hd.same (s.trans s1))))⟩
theorem evkl_lst (x : EvKs K A ts σ H0 ds) (l : ds.length ≤ 1000) : EvKL K A (tLst ts) σ H0 ds := fun H s Q q => x H s _ fun vs H1 s1 h1 => ⟨sz (by rw [h1.len]; omega), fun p np => q p vs H1 _ s1 (Same.new np) np upd_same h1⟩
theorem evkl_cat {i : Nat} {b : Addr} {xs : List V} (hd : LsA A H0) (e : σ[i]? = some (some (.ref b))) (hb : H0 b = some (.lst xs)) (hx : KDs K A H0 xs ds) (y : EvKL K A te σ H0 es) (l : ds.length + es.length ≤ 1000) : EvKL K A (tOp rCat (tVar i) te) σ H0 (ds ++ es) := fun H s Q q => ⟨.ref b, e, y H s _ fun p vs H1 H2 s1 s2 np hp h1 => by
  refine w_cat (s2 _ _ (s1 _ _ (s _ _ hb))) hp (by rw [hx.len, h1.len]; omega) fun c nc => q c _ H2 _ (s1.trans s2) (Same.new nc) nc upd_same ?_
  exact (hx.mono (kpb_same ((s.trans s1).trans s2)) hd).app (h1.mono (kpb_same s2) (hd.same (s.trans s1)))⟩
theorem evkl_use {H : Hp} {Q : VK} (x : EvKL K A te σ H ds) (q : ∀ p vs H1 H2, Same H H1 → Same H1 H2 → H1 p = none → H2 p = some (.lst vs) → KDs K A H1 vs ds → Q (.ref p) H2) : te σ H Q := x H (Same.refl _) Q q
theorem evk_use {H : Hp} {Q : VK} (x : EvK K A te σ H d) (q : ∀ v H2, Same H H2 → KD K A H2 v d → Q v H2) : te σ H Q := x H (Same.refl _) Q q
theorem kds_rep {H : Hp} {vs : List V} (h : KDs K A H vs ds) : ∀ n : Nat, KDs K A H (List.replicate n vs).flatten (List.replicate n ds).flatten
  | 0 => .nil
  | n + 1 => by
    rw [List.replicate_succ, List.replicate_succ, List.flatten_cons, List.flatten_cons]
    exact h.app (kds_rep h n)
/-- (..) * n and (..) + (..) -/
theorem evk_repT {m : Int} {n : Nat} (hm : m = (n : Int)) (hd : LsA A H0) (x : EvK K A te σ H0 (.tuple ds)) (h2 : 2 ≤ n) (hn : n ≤ 1000) (l0 : ds ≠ []) (l : ds.length ≤ 1000) : EvK K A (tOp (rRepT K) te (tC (.int m))) σ H0 (.tuple (List.replicate n ds).flatten) := fun H s Q q => x H s _ fun v H1 s1 h1 => by
  subst hm
  cases h1 with
  | tup hx hxs =>
  have hl := hxs.len
  refine ⟨_, (n : Nat), _, rfl, rfl, hx, fun z => l0 (by rw [z] at hl; exact List.eq_nil_of_length_eq_zero hl.symm), by omega, by omega, by omega, fun p np => ?_⟩
  rw [Int.toNat_natCast]
  exact q _ _ (s1.trans (Same.new np)) (.tup (tupOf upd_same) (kds_rep (hxs.mono (kpb_same (Same.new np)) (hd.same (s.trans s1))) n))
theorem evk_catT (hd : LsA A H0) (x : EvK K A te σ H0 (.tuple ds)) (y : EvK K A tf σ H0 (.tuple es)) (l0 : ds ≠ []) (m0 : es ≠ []) (l : ds.length + es.length ≤ 1000) : EvK K A (tOp (rCatT K) te tf) σ H0 (.tuple (ds ++ es)) := fun H s Q q => x H s _ fun v H1 s1 h1 => y H1 (s.trans s1) _ fun w H2 s2 h2 => by
  cases h1 with
  | tup hx hxs =>
  cases h2 with
  | tup hy hys =>
  have l1 := hxs.len
  have l2 := hys.len
  refine ⟨_, _, _, _, rfl, rfl, tup_s s2 hx, hy, fun z => l0 (by rw [z] at l1; exact List.eq_nil_of_length_eq_zero l1.symm), sz (by omega), fun z => absurd (by rw [z] at l2; exact List.eq_nil_of_length_eq_zero l2.symm) m0, fun _ p np => ?_⟩
  have hd2 := hd.same ((s.trans s1).trans s2)
  exact q _ _ ((s1.trans s2).trans (Same.new np)) (.tup (tupOf upd_same) (((hxs.mono (kpb_same s2) (hd.same (s.trans s1))).mono (kpb_same (Same.new np)) hd2).app (hys.mono (kpb_same (Same.new np)) hd2)))
end
end RG
/-! ### dicts: readings step by step -/
namespace RG
open PySem PySem.Spec PyProof.Rows L2
theorem hu1 {k : Nat} {A : Around} (hr : Room k A) : A.units + 1 < cLine := by
  have := hr.un
  omega
/-- d[y]; y in d; d.get(y, z); by values -/
def rDGet : V → V → Hp → VK → Prop := fun x y H Q => ∃ a v, x = .ref a ∧ DGet H a y (some v) ∧ Q v H
def rDIn (neg : Bool) : V → V → Hp → VK → Prop := fun x y H Q => ∃ a o, x = .ref a ∧ DGet H a y o ∧ Q (.bl (if neg then !o.isSome else o.isSome)) H
def rDPut : V → V → V → Hp → (Hp → Prop) → Prop := fun x y v H N => ∃ a H4, x = .ref a ∧ DPut H a y v H4 ∧ N H4
section
variable {K : PySem.W.Frag} {σ : L2.St} {H : Hp} {D : Ends} {td ty tx te : TE} {Q : VK} {a : Addr} {ts : TS}
theorem w_dget (h : td σ H fun x H1 => ty σ H1 fun y H2 => rDGet x y H2 Q) : tDGet td ty σ H Q := h
theorem w_din (h : ty σ H fun y H1 => td σ H1 fun x H2 => rDIn false x y H2 Q) : tDIn ty td σ H Q := h
theorem w_dnotin (h : ty σ H fun y H1 => td σ H1 fun x H2 => rDIn true x y H2 Q) : tDNotIn ty td σ H Q := h
theorem w_dput (h : te σ H fun v H1 => td σ H1 fun x H2 => ty σ H2 fun y H3 => rDPut x y v H3 fun H4 => D.nx σ H4) : sDPut td ty te D σ H := h
theorem w_dnewK (h : ∀ p H2, Same H H2 → H p = none → H2 p = some (.dK []) → Q (.ref p) H2) : tDNewK σ H Q := fun p np => h p _ (Same.new np) np upd_same
theorem w_dnewT (h : ∀ p H2, Same H H2 → H p = none → H2 p = some (.dT []) → Q (.ref p) H2) : tDNewT σ H Q := fun p np => h p _ (Same.new np) np upd_same
theorem a_dgetK {kvs : List (Key × V)} {k : Key} {v : V} (e : Rd H a (.dK kvs)) (hv : valV kvs k = some v) (q : Q v H) : rDGet (.ref a) (kV k) H Q := ⟨a, v, rfl, .inl ⟨kvs, k, e, rfl, hv.symm⟩, q⟩
theorem a_dgetS {kvs : List (Key × V)} {z : Str} {v : V} (e : Rd H a (.dK kvs)) (hv : valV kvs (.inr z) = some v) (q : Q v H) : rDGet (.ref a) (.str z) H Q := a_dgetK (k := .inr z) e hv q
theorem a_dgetT {kvs : List (List Key × V)} {k : List Key} {v : V} {b : Addr} (e : Rd H a (.dT kvs)) (eb : H b = some (.tup (k.map kV))) (hv : valV kvs k = some v) (q : Q v H) : rDGet (.ref a) (.ref b) H Q := ⟨a, v, rfl, .inr ⟨kvs, k, b, e, rfl, eb, hv.symm⟩, q⟩
theorem a_dinS {kvs : List (Key × V)} {z : Str} (e : Rd H a (.dK kvs)) (q : Q (.bl (valV kvs (.inr z)).isSome) H) : rDIn false (.ref a) (.str z) H Q := ⟨a, _, rfl, .inl ⟨kvs, .inr z, e, rfl, rfl⟩, q⟩
theorem a_dnotinS {kvs : List (Key × V)} {z : Str} (e : Rd H a (.dK kvs)) (q : Q (.bl (!(valV kvs (.inr z)).isSome)) H) : rDIn true (.ref a) (.str z) H Q := ⟨a, _, rfl, .inl ⟨kvs, .inr z, e, rfl, rfl⟩, q⟩
theorem a_dputK {kvs : List (Key × V)} {k : Key} {v : V} {N : Hp → Prop} (e : H a = some (.dK kvs)) (hl : kvs.length < 100000) (q : N (upd H a (.dK (putK kvs k v)))) : rDPut (.ref a) (kV k) v H N := ⟨a, _, rfl, .inl ⟨kvs, k, e, rfl, szl hl, rfl⟩, q⟩
theorem a_dputS {kvs : List (Key × V)} {z : Str} {v : V} {N : Hp → Prop} (e : H a = some (.dK kvs)) (hl : kvs.length < 100000) (q : N (upd H a (.dK (putK kvs (.inr z) v)))) : rDPut (.ref a) (.str z) v H N := a_dputK (k := .inr z) e hl q
theorem a_dputI {kvs : List (Key × V)} {i : Int} {v : V} {N : Hp → Prop} (e : H a = some (.dK kvs)) (hl : kvs.length < 100000) (q : N (upd H a (.dK (putK kvs (.inl i) v)))) : rDPut (.ref a) (.int i) v H N := a_dputK (k := .inl i) e hl q
theorem a_dputT {kvs : List (List Key × V)} {k : List Key} {v : V} {b : Addr} {N : Hp → Prop} (e : H a = some (.dT kvs)) (eb : H b = some (.tup (k.map kV))) (hl : kvs.length < 100000) (q : N (upd H a (.dT (putK kvs k v)))) : rDPut (.ref a) (.ref b) v H N := ⟨a, _, rfl, .inr ⟨kvs, k, b, e, rfl, eb, szl hl, rfl⟩, q⟩
theorem w_dget2 (h : td σ H fun x H1 => ∃ a, x = .ref a ∧ IsD H1 a ∧ ty σ H1 fun y H2 => tx σ H2 fun z H3 => ∃ o, DGet H3 a y o ∧ Q (o.getD z) H3) : tDGet2 td ty tx σ H Q := h
/-- a walk of the keys of the dict at a: it is locked meanwhile -/
theorem w_lockE {u : HO} (h : H a = some u) (mu : Mut (some u)) (q : ∀ od, te σ (upd H a (.frz od u)) fun v H' => H' a = some (.frz od u) ∧ Q v (upd H' a u)) : tLockE te σ H Q := ⟨a, u, h, mu, q⟩
theorem w_lockS {u : HO} (h : H a = some u) (mu : Mut (some u)) (q : ∀ od, ts ⟨fun σ' H' => H' a = some (.frz od u) ∧ D.nx σ' (upd H' a u), fun v H' => H' a = some (.frz od u) ∧ D.rt v (upd H' a u), fun σ' H' => H' a = some (.frz od u) ∧ D.bk σ' (upd H' a u), fun σ' H' => H' a = some (.frz od u) ∧ D.ct σ' (upd H' a u)⟩ σ (upd H a (.frz od u))) : tLock ts D σ H := ⟨a, u, h, mu, q⟩
theorem w_iKeys {R : It → Hp → Prop} (h : td σ H fun x H1 => ∃ d o, x = .ref d ∧ ((∃ kvs, H1 d = some (.frz o (.dK kvs)) ∧ R (Itk d o kvs) H1) ∨ ∃ kvs, H1 d = some (.frz o (.dT kvs)) ∧ R (Itkt d o kvs) H1)) : iKeys td σ H R := h
theorem lock_same {H2 : Hp} {u : HO} {od : Obj} (h : H a = some u) (s : Same (upd H a (.frz od u)) H2) : Same H (upd H2 a u) := fun b o e => by
  by_cases hb : b = a
  · subst hb
    rw [upd_same]
    rw [h] at e
    exact e
  · rw [upd_ne hb]
    exact s _ _ (by rw [upd_ne hb]; exact e)
theorem rd_s {H2 : Hp} {u : HO} (s : Same H H2) (h : Rd H a u) : Rd H2 a u := h.imp (fun z => s _ _ z) fun ⟨o, z⟩ => ⟨o, s _ _ z⟩
end
end RG
namespace RG
open PySem PySem.Spec PyProof.Rows L2 LamX
section
variable {K : PySem.W.Frag} {H : Hp} {Q : VK}
/-- xs[k:] of a list -/
theorem w_slLFrom {a : Addr} {xs : List V} {k : Nat} (s : SqL K H a xs) (h : ∀ p H2, Same H H2 → H p = none → H2 p = some (.lst (xs.drop k)) → Q (.ref p) H2) : rSlL K (.ref a) (some (k : Nat)) none H Q := by
  refine ⟨a, xs, rfl, s, fun p np => ?_⟩
  have e1 : HT.sIx xs.length 0 (some ((k : Nat) : Int)) = min k xs.length := HT.sIx_nat _ _ k
  have e2 : HT.sIx xs.length xs.length none = xs.length := HT.sIx_none _ _
  have e3 : cutV xs (some ((k : Nat) : Int)) none = xs.drop k := by
    unfold cutV
    rw [e1, e2]
    rcases Nat.le_total k xs.length with hk | hk
    · rw [Nat.min_eq_left hk, List.take_of_length_le (by rw [List.length_drop]; omega)]
    · rw [Nat.min_eq_right hk, List.drop_of_length_le hk]
      simp
  rw [e3]
  exact h p _ (Same.new np) np upd_same
theorem w_slLToN {a : Addr} {xs : List V} {k : Nat} (s : SqL K H a xs) (h : ∀ p H2, Same H H2 → H p = none → H2 p = some (.lst (xs.take k)) → Q (.ref p) H2) : rSlL K (.ref a) none (some (k : Nat)) H Q :=
  w_slLTo s fun p np => h p _ (Same.new np) np upd_same
/-- tuple(xs), xs a list of data -/
theorem w_tupleD {p : Addr} {xs : List V} {ds : List PyData} (hp : SqL K H p xs) (ha : DpAll K H xs ds) (h : ∀ u H2, Same H H2 → H2 u = some (.tup xs) → Dp K H2 (.ref u) (.tuple ds) → Q (.ref u) H2) : cTuple K [.ref p] H Q :=
  ⟨p, xs, rfl, .inl ⟨hp, fun t nt => h t _ (Same.new nt) upd_same (.tup (tupOf upd_same) (dps_s (Same.new nt) ha))⟩⟩
end
end RG
namespace RG
open PySem PySem.Spec PyProof.Rows L2 LamX
mutual
/-- data without lists stay where tuples stay -/
theorem dp_tups {K : PySem.W.Frag} {H H1 : Hp} (e : ∀ b xs, SqT K H b xs → SqT K H1 b xs) : ∀ {v : V} {d : PyData}, imm d = true → Dp K H v d → Dp K H1 v d
  | _, _, _, .non => .non
  | _, _, _, .bl b => .bl b
  | _, _, _, .int i => .int i
  | _, _, _, .str x => .str x
  | _, _, i, .lst h a => by simp [imm] at i
  | _, _, i, .tup h a => .tup (e _ _ h) (dps_tups e (by simpa [imm] using i) a)
theorem dps_tups {K : PySem.W.Frag} {H H1 : Hp} (e : ∀ b xs, SqT K H b xs → SqT K H1 b xs) : ∀ {vs : List V} {ds : List PyData}, immAll ds = true → DpAll K H vs ds → DpAll K H1 vs ds
  | _, _, _, .nil => .nil
  | _, _, i, .cons a b => by
    simp [immAll] at i
    exact .cons (dp_tups e i.1 a) (dps_tups e i.2 b)
end
def notTup : HO → Prop
  | .tup _ => False
  | .frz _ (.tup _) => False
  | _ => True
theorem tups_upd {K : PySem.W.Frag} {H : Hp} {D : Addr} {o u : HO} (hD : H D = some u) (n : notTup u) : ∀ b xs, SqT K H b xs → SqT K (upd H D o) b xs := fun b xs h => by
  rcases h with (h | ⟨w, h⟩) | h
  · exact .inl (.inl (by rw [upd_ne (ne_of h hD (by intro z; rw [← z] at n; exact n))]; exact h))
  · exact .inl (.inr ⟨w, by rw [upd_ne (ne_of h hD (by intro z; rw [← z] at n; exact n))]; exact h⟩)
  · exact .inr h
end RG
namespace RG
open PySem PySem.Spec PyProof.Rows L2 LamX
/-- sorted(d), len(d) -/
def rSortDI : List V → Hp → VK → Prop := fun xs H Q => ∃ (a : Addr) (kvs : List (Key × V)) (ks : List Int), xs = [.ref a] ∧ Rd H a (.dK kvs) ∧ kvs.map (·.1) = ks.map Sum.inl ∧ ks.length < 64 ∧ ∀ (ys : List Int) (p : Addr), ys.Perm ks → ys.Pairwise (· ≤ ·) → H p = none → Q (.ref p) (upd H p (.lst (ys.map V.int)))
def rSortDS : List V → Hp → VK → Prop := fun xs H Q => ∃ (a : Addr) (kvs : List (Key × V)) (ks : List Str), xs = [.ref a] ∧ Rd H a (.dK kvs) ∧ kvs.map (·.1) = ks.map Sum.inr ∧ ks.length < 64 ∧ ∀ ys p, ys.Perm ks → sortedS ys = true → H p = none → Q (.ref p) (upd H p (.lst (ys.map V.str)))
def rLenD : List V → Hp → VK → Prop := fun xs H Q => ∃ a kvs, xs = [V.ref a] ∧ H a = some (.dK kvs) ∧ Q (.int kvs.length) H
theorem put_keysI {kvs : List (Key × V)} {ks : List Int} {x : Int} {v : V} (h : kvs.map (·.1) = ks.map Sum.inl) : (putK kvs (.inl x) v).map (·.1) = (if x ∈ ks then ks else ks ++ [x]).map Sum.inl := by
  have ha : (kvs.any fun kv => decide (kv.1 = Sum.inl x)) = decide (x ∈ ks) := by
    have h1 : (kvs.any fun kv => decide (kv.1 = Sum.inl x)) = (kvs.map (·.1)).any fun k => decide (k = Sum.inl x) := by rw [List.any_map]; rfl
    rw [h1, h, List.any_map]
    apply Bool.eq_iff_iff.mpr
    rw [List.any_eq_true, decide_eq_true_eq]
    constructor
    · rintro ⟨y, hy, e⟩
      have := of_decide_eq_true e
      injection this with e
      rw [← e]
      exact hy
    · intro hx
      exact ⟨x, hx, by simp⟩
  unfold putK
  rw [ha]
  by_cases hx : x ∈ ks
  · rw [if_pos (decide_eq_true hx), if_pos hx, ← h, List.map_map]
    apply List.map_congr_left
    intro kv _
    simp only [Function.comp]
    split <;> rfl
  · rw [if_neg (by simpa using hx), if_neg hx, List.map_append, List.map_append, h]
    rfl
theorem put_keysS {kvs : List (Key × V)} {ks : List Str} {x : Str} {v : V} (h : kvs.map (·.1) = ks.map Sum.inr) : (putK kvs (.inr x) v).map (·.1) = (if x ∈ ks then ks else ks ++ [x]).map Sum.inr := by
  have ha : (kvs.any fun kv => decide (kv.1 = Sum.inr x)) = decide (x ∈ ks) := by
    have h1 : (kvs.any fun kv => decide (kv.1 = Sum.inr x)) = (kvs.map (·.1)).any fun k => decide (k = Sum.inr x) := by rw [List.any_map]; rfl
    rw [h1, h, List.any_map]
    apply Bool.eq_iff_iff.mpr
    rw [List.any_eq_true, decide_eq_true_eq]
    constructor
    · rintro ⟨y, hy, e⟩
      have := of_decide_eq_true e
      injection this with e
      rw [← e]
      exact hy
    · intro hx
      exact ⟨x, hx, by simp⟩
  unfold putK
  rw [ha]
  by_cases hx : x ∈ ks
  · rw [if_pos (decide_eq_true hx), if_pos hx, ← h, List.map_map]
    apply List.map_congr_left
    intro kv _
    simp only [Function.comp]
    split <;> rfl
  · rw [if_neg (by simpa using hx), if_neg hx, List.map_append, List.map_append, h]
    rfl
theorem lt_of_le_nd : ∀ {l : List Int}, l.Pairwise (· ≤ ·) → l.Nodup → l.Pairwise (· < ·)
  | [], _, _ => .nil
  | a :: l, h, n => by
    rw [List.pairwise_cons] at h ⊢
    rw [List.nodup_cons] at n
    refine ⟨fun b hb => ?_, lt_of_le_nd h.2 n.2⟩
    have := h.1 b hb
    have : a ≠ b := fun z => n.1 (z ▸ hb)
    omega
end RG
/-! ### data all of whose lists stand in the heap -/
namespace RG
open PySem PySem.Spec PyProof.Rows L2 LamX
mutual
theorem KD.imp {K : PySem.W.Frag} {A A' : Addr → Prop} {H H2 : Hp} (s : Same H H2) (w : ∀ b, A' b → A b) : ∀ {v : V} {d : PyData}, KD K A H v d → KD K A' H2 v d
  | _, _, .non => .non
  | _, _, .bl b => .bl b
  | _, _, .int i => .int i
  | _, _, .str x => .str x
  | _, _, .lst n h t => .lst (fun z => n (w _ z)) (s.seq h) (KDs.imp s w t)
  | _, _, .tup h t => .tup (RG.Same.tup s h) (KDs.imp s w t)
theorem KDs.imp {K : PySem.W.Frag} {A A' : Addr → Prop} {H H2 : Hp} (s : Same H H2) (w : ∀ b, A' b → A b) : ∀ {vs : List V} {ds : List PyData}, KDs K A H vs ds → KDs K A' H2 vs ds
  | _, _, .nil => .nil
  | _, _, .cons h t => .cons (KD.imp s w h) (KDs.imp s w t)
end
abbrev DpN (K : PySem.W.Frag) (H : Hp) : V → PyData → Prop := KD K (fun b => H b = none) H
abbrev DpNs (K : PySem.W.Frag) (H : Hp) : List V → List PyData → Prop := KDs K (fun b => H b = none) H
/-- all but what stands at p stays -/
def Oth (p : Addr) (H H2 : Hp) : Prop := ∀ b o, H b = some o → b ≠ p → H2 b = some o
section
variable {K : PySem.W.Frag} {H H1 H2 : Hp} {v : V} {d : PyData} {vs : List V} {ds es : List PyData} {p : Addr} {T : List (Addr × Str)}
theorem dpn_s (s : Same H H2) (h : DpN K H v d) : DpN K H2 v d := h.imp s fun b e => s.free e
theorem dpns_s (s : Same H H2) (h : DpNs K H vs ds) : DpNs K H2 vs ds := h.imp s fun b e => s.free e
/-- what is new is none of its lists -/
theorem dpn_new (h : DpN K H v d) (s : Same H H2) (np : H p = none) : KD K (fun b => b = p) H2 v d := h.imp s fun b e => by rw [e]; exact np
theorem dpns_new (h : DpNs K H vs ds) (s : Same H H2) (np : H p = none) : KDs K (fun b => b = p) H2 vs ds := h.imp s fun b e => by rw [e]; exact np
theorem dpn_lst {a : Addr} (h : H a = some (.lst vs)) (t : DpNs K H vs ds) : DpN K H (.ref a) (.list ds) := .lst (fun z => by rw [h] at z; cases z) (lstOf h) t
theorem KDs.of_get {A : Addr → Prop} : ∀ {vs : List V} {ds : List PyData}, vs.length = ds.length → (∀ (j : Nat) (v : V) (d : PyData), vs[j]? = some v → ds[j]? = some d → KD K A H v d) → KDs K A H vs ds
  | [], [], _, _ => .nil
  | [], _ :: _, h, _ => by simp at h
  | _ :: _, [], h, _ => by simp at h
  | v :: vs, d :: ds, h, g => .cons (g 0 v d rfl rfl) (KDs.of_get (by simpa using h) fun j v' d' h1 h2 => g (j + 1) v' d' (by simpa using h1) (by simpa using h2))
theorem kds_ints {A : Addr → Prop} : ∀ ns : List Int, KDs K A H (ns.map V.int) (ns.map PyData.int)
  | [] => .nil
  | n :: ns => .cons (.int n) (kds_ints ns)
theorem KDs.get {A : Addr → Prop} : ∀ {vs : List V} {ds : List PyData} {i : Nat} {d : PyData}, KDs K A H vs ds → ds[i]? = some d → ∃ v, vs[i]? = some v ∧ KD K A H v d
  | _, _, _, _, .nil, e => by simp at e
  | _, _, 0, _, .cons h _, e => by
    simp at e
    subst e
    exact ⟨_, rfl, h⟩
  | _, _, i + 1, d, .cons _ t, e => by
    obtain ⟨v, h1, h2⟩ := KDs.get (i := i) (d := d) t (by simpa using e)
    exact ⟨v, by simpa using h1, h2⟩
theorem KDs.drop {A : Addr → Prop} : ∀ {vs : List V} {ds : List PyData} (n : Nat), KDs K A H vs ds → KDs K A H (vs.drop n) (ds.drop n)
  | _, _, 0, h => by simpa using h
  | _, _, _ + 1, .nil => by simpa using (KDs.nil : KDs K A H [] [])
  | _, _, n + 1, .cons _ t => by simpa using KDs.drop n t
theorem lsa_one {xs : List V} (h : H p = some (.lst xs)) : LsA (fun b => b = p) H := fun b (hb : b = p) => ⟨xs, by rw [hb]; exact h⟩
theorem Oth.refl : Oth p H H := fun _ _ h _ => h
theorem Oth.trans (x : Oth p H H1) (y : Oth p H1 H2) : Oth p H H2 := fun b o h n => y b o (x b o h n) n
theorem Oth.same (x : Oth p H H1) (s : Same H1 H2) : Oth p H H2 := fun b o h n => s _ _ (x b o h n)
theorem oth_of (s : Same H H1) : Oth p H H1 := fun b o h _ => s b o h
theorem Oth.put {o : HO} (x : Oth p H H1) : Oth p H (upd H1 p o) := fun b u h n => by
  rw [upd_ne n]
  exact x b u h n
theorem Oth.kpb (x : Oth p H H1) : KpB (fun b => b = p) H H1 := fun b o h n _ => x b o h n
theorem Oth.tabs {xs : List V} (x : Oth p H H1) (hp : H p = some (.lst xs)) (t : Tabs T H) : Tabs T H1 := fun q hq => by
  obtain ⟨ps, h1, h2, h3⟩ := t q hq
  refine ⟨ps, x _ _ h1 (ne_of h1 hp (by intro z; cases z)), h2, fun pos cv hc => ?_⟩
  obtain ⟨c, e1, e2⟩ := h3 pos cv hc
  exact ⟨c, e1, x _ _ e2 (ne_of e2 hp (by intro z; unfold CodeO at z; cases z))⟩
end
/-- evaluated to such data -/
def EvN (K : PySem.W.Frag) (te : TE) (σ : L2.St) (H0 : Hp) (d : PyData) : Prop := ∀ H, Same H0 H → ∀ Q : VK, (∀ v H2, Same H H2 → DpN K H2 v d → Q v H2) → te σ H Q
def EvNs (K : PySem.W.Frag) (ts : TA) (σ : L2.St) (H0 : Hp) (ds : List PyData) : Prop := ∀ H, Same H0 H → ∀ Q : List V → Hp → Prop, (∀ vs H2, Same H H2 → DpNs K H2 vs ds → Q vs H2) → ts σ H Q
/-- to a new list of such data -/
def EvNL (K : PySem.W.Frag) (te : TE) (σ : L2.St) (H0 : Hp) (ds : List PyData) : Prop := ∀ H, Same H0 H → ∀ Q : VK, (∀ p vs H1 H2, Same H H1 → Same H1 H2 → H1 p = none → H2 p = some (.lst vs) → DpNs K H1 vs ds → Q (.ref p) H2) → te σ H Q
section
variable {K : PySem.W.Frag} {σ : L2.St} {H0 : Hp} {d : PyData} {ds es : List PyData} {te tf : TE} {ts : TA}
theorem evn_non : EvN K (tC .non) σ H0 .none := fun H _ Q q => q _ H (Same.refl _) .non
theorem evn_int {i : Int} : EvN K (tC (.int i)) σ H0 (.int i) := fun H _ Q q => q _ H (Same.refl _) (.int i)
theorem evn_bl {b : Bool} : EvN K (tC (.bl b)) σ H0 (.bool b) := fun H _ Q q => q _ H (Same.refl _) (.bl b)
theorem evn_str {z : Str} : EvN K (tC (.str z)) σ H0 (.str z) := fun H _ Q q => q _ H (Same.refl _) (.str z)
theorem evn_neg {i : Int} : EvN K (tUn (rU fun i => .int (-i)) (tC (.int i))) σ H0 (.int (-i)) := fun H _ Q q => ⟨i, rfl, q _ H (Same.refl _) (.int _)⟩
theorem evn_vint {i : Nat} {n : Int} (e : σ[i]? = some (some (.int n))) : EvN K (tVar i) σ H0 (.int n) := fun H s Q q => ⟨_, e, q _ H (Same.refl _) (.int n)⟩
theorem evn_var {i : Nat} {v : V} (e : σ[i]? = some (some v)) (h : DpN K H0 v d) : EvN K (tVar i) σ H0 d := fun H s Q q => ⟨v, e, q v H (Same.refl _) (dpn_s s h)⟩
theorem evns_nil : EvNs K tNil σ H0 [] := fun H _ Q q => q [] H (Same.refl _) .nil
theorem evns_cons (x : EvN K te σ H0 d) (y : EvNs K ts σ H0 ds) : EvNs K (tCons te ts) σ H0 (d :: ds) := fun H s Q q => x H s _ fun v H1 s1 h1 => y H1 (s.trans s1) _ fun vs H2 s2 h2 => q _ H2 (s1.trans s2) (.cons (dpn_s s2 h1) h2)
theorem evn_tup (x : EvNs K ts σ H0 ds) (l : ds.length ≤ 1000) : EvN K (tTup ts) σ H0 (.tuple ds) := fun H s Q q => x H s _ fun vs H1 s1 h1 => ⟨sz (by rw [h1.len]; omega), fun p np => q _ _ (s1.trans (Same.new np)) (.tup (tupOf upd_same) (dpns_s (Same.new np) h1))⟩
theorem evnl_lst (x : EvNs K ts σ H0 ds) (l : ds.length ≤ 1000) : EvNL K (tLst ts) σ H0 ds := fun H s Q q => x H s _ fun vs H1 s1 h1 => ⟨sz (by rw [h1.len]; omega), fun p np => q p vs H1 _ s1 (Same.new np) np upd_same h1⟩
theorem evn_ofL (x : EvNL K te σ H0 ds) : EvN K te σ H0 (.list ds) := fun H s Q q => x H s _ fun p vs H1 H2 s1 s2 np hp h1 => q _ _ (s1.trans s2) (dpn_lst hp (dpns_s s2 h1))
theorem evn_lst (x : EvNs K ts σ H0 ds) (l : ds.length ≤ 1000) : EvN K (tLst ts) σ H0 (.list ds) := evn_ofL (evnl_lst x l)
theorem evnl_cat {i : Nat} {b : Addr} {xs : List V} (e : σ[i]? = some (some (.ref b))) (hb : H0 b = some (.lst xs)) (hx : DpNs K H0 xs ds) (y : EvNL K te σ H0 es) (l : ds.length + es.length ≤ 1000) : EvNL K (tOp rCat (tVar i) te) σ H0 (ds ++ es) := fun H s Q q => ⟨.ref b, e, y H s _ fun p vs H1 H2 s1 s2 np hp h1 => by
  refine w_cat (s2 _ _ (s1 _ _ (s _ _ hb))) hp (by rw [hx.len, h1.len]; omega) fun c nc => q c _ H2 _ (s1.trans s2) (Same.new nc) nc upd_same ?_
  exact (dpns_s ((s.trans s1).trans s2) hx).app (dpns_s s2 h1)⟩
theorem evn_tupleV {i : Nat} {a : Addr} {xs : List V} (e : σ[i]? = some (some (.ref a))) (ha : H0 a = some (.lst xs)) (hx : DpNs K H0 xs ds) : EvN K (tCB (cTuple K) (tCons (tVar i) tNil)) σ H0 (.tuple ds) := fun H s Q q =>
  ⟨.ref a, e, a, xs, rfl, .inl ⟨lstOf (s _ _ ha), fun t nt => q _ _ (Same.new nt) (.tup (tupOf upd_same) (dpns_s (s.trans (Same.new nt)) hx))⟩⟩
theorem evnl_from {i k : Nat} {a : Addr} {xs : List V} (e : σ[i]? = some (some (.ref a))) (ha : H0 a = some (.lst xs)) (hx : DpNs K H0 xs ds) {m : Int} (hm : m = (k : Int)) : EvNL K (tSl (rSlL K) (tVar i) (tPart (tC (.int m))) tNoPart) σ H0 (ds.drop k) := fun H s Q q => by
  subst hm
  refine w_sl ⟨.ref a, e, ⟨_, rfl, w_noPart ?_⟩⟩
  refine w_slLFrom (k := k) (lstOf (s _ _ ha)) fun p H2 s2 np hp => ?_
  exact q p _ H H2 (Same.refl _) s2 np hp ((dpns_s s hx).drop k)
theorem evn_ixV {i k : Nat} {a : Addr} {xs : List V} (e : σ[i]? = some (some (.ref a))) (ha : H0 a = some (.lst xs)) (hx : DpNs K H0 xs ds) {m : Int} (hm : m = (k : Int)) (hd : ds[k]? = some d) : EvN K (tOp (rIxL K) (tVar i) (tC (.int m))) σ H0 d := fun H s Q q => by
  obtain ⟨v, hv, hvd⟩ := hx.get hd
  exact ⟨.ref a, e, w_c (w_ixL (lstOf (s _ _ ha)) (at_of (j := k) hm hv) (q v H (Same.refl _) (dpn_s s hvd)))⟩
theorem evn_use {H : Hp} {Q : VK} (x : EvN K te σ H d) (q : ∀ v H2, Same H H2 → DpN K H2 v d → Q v H2) : te σ H Q := x H (Same.refl _) Q q
theorem evnl_use {H : Hp} {Q : VK} (x : EvNL K te σ H ds) (q : ∀ p vs H1 H2, Same H H1 → Same H1 H2 → H1 p = none → H2 p = some (.lst vs) → DpNs K H1 vs ds → Q (.ref p) H2) : te σ H Q := x H (Same.refl _) Q q
end
/-! ### rows of numbers -/
/-- a list of lists of ints at F, its rows at as -/
structure MatAt (H : Hp) (F : Addr) (as : List Addr) (m : List (List Int)) : Prop where
  lst : H F = some (.lst (as.map V.ref))
  len : as.length = m.length
  row : ∀ (j : Nat) (b : Addr) (r : List Int), as[j]? = some b → m[j]? = some r → H b = some (.lst (r.map V.int))
section
variable {K : PySem.W.Frag} {H H1 H2 : Hp} {F : Addr} {as : List Addr} {m : List (List Int)} {σ : L2.St} {Q : VK}
theorem MatAt.keep (M : MatAt H F as m) (k : ∀ b xs, (b = F ∨ b ∈ as) → H b = some (.lst xs) → H1 b = some (.lst xs)) : MatAt H1 F as m :=
  ⟨k _ _ (.inl rfl) M.lst, M.len, fun j b r h1 h2 => k _ _ (.inr (List.mem_of_getElem? h1)) (M.row j b r h1 h2)⟩
theorem MatAt.s (M : MatAt H F as m) (s : Same H H1) : MatAt H1 F as m := M.keep fun b xs _ h => s _ _ h
theorem MatAt.kds {A : Addr → Prop} (M : MatAt H F as m) (n : ∀ b ∈ as, ¬ A b) : KDs K A H (as.map V.ref) (m.map fun r => .list (r.map PyData.int)) := by
  refine KDs.of_get (by simp [M.len]) fun j v d h1 h2 => ?_
  rw [List.getElem?_map] at h1 h2
  obtain ⟨b, hb, rfl⟩ := Option.map_eq_some_iff.mp h1
  obtain ⟨r, hr, rfl⟩ := Option.map_eq_some_iff.mp h2
  exact .lst (n b (List.mem_of_getElem? hb)) (lstOf (M.row j b r hb hr)) (kds_ints r)
theorem MatAt.dpns (M : MatAt H F as m) : DpNs K H (as.map V.ref) (m.map fun r => .list (r.map PyData.int)) := M.kds fun b hb z => by
  obtain ⟨j, hj, e⟩ := List.mem_iff_getElem.mp hb
  have hjm : j < m.length := by rw [← M.len]; exact hj
  have := M.row j b m[j] (by rw [← e]; exact List.getElem?_eq_getElem hj) (List.getElem?_eq_getElem hjm)
  rw [z] at this
  cases this
theorem MatAt.dpn (M : MatAt H F as m) : DpN K H (.ref F) (.list (m.map fun r => .list (r.map PyData.int))) := dpn_lst M.lst M.dpns
/-- [list(row) for row in ..] -/
theorem lc_copy {i : Nat} (M : MatAt H F as m) (h6 : m.length ≤ 1000) (hw : ∀ x, wipe ((wipe σ [i]).set i (some x)) [i] = wipe σ [i]) (hv : ∀ x, ((wipe σ [i]).set i (some x))[i]? = some (some x))
    (q : ∀ (C : Addr) (cs : List Addr) (H2 : Hp), H C = none → Same H H2 → MatAt H2 C cs m → cs.Nodup → (∀ b ∈ cs, H b = none ∧ b ≠ C) → Q (.ref C) H2) :
    LcGoal (Itl K F) (gName i) tYes (tCB (cList K) (tCons (tVar i) tNil)) [i] σ H Q := by
  refine lc_go (walk_list (K := K) (a := F) (xs := as.map V.ref)) (by rw [List.length_map, M.len]; omega) (fun C j acc H' => Same H H' ∧ ∃ cs : List Addr, acc = cs.map V.ref ∧ cs.length = j ∧ cs.Nodup ∧ (∀ b ∈ cs, H b = none ∧ b ≠ C) ∧ ∀ (k : Nat) (b : Addr) (r : List Int), cs[k]? = some b → m[k]? = some r → H' b = some (.lst (r.map V.int)))
    (fun C hC => ⟨Same.new hC, [], rfl, rfl, .nil, fun b hb => by simp at hb, fun k b r h => by simp at h⟩) (fun C j acc H' hC _ iv => lstOf (iv.1 _ _ M.lst)) ?_ ?_
  · rintro C j acc x H' H'' hC hj hacc hH' ⟨s1, cs, rfl, hl, hnd, hf, hrow⟩ ⟨rfl, hx⟩
    rw [List.getElem?_map] at hx
    obtain ⟨b, hb, rfl⟩ := Option.map_eq_some_iff.mp hx
    rw [List.length_map] at hj
    have hjm : j < m.length := by rw [← M.len]; exact hj
    have hr := M.row j b m[j] hb (List.getElem?_eq_getElem hjm)
    refine w_name ⟨hw _, w_yes (if_t rfl (w_cb (w_cons ⟨_, hv _, w_nil ?_⟩)))⟩
    refine ⟨b, m[j].map V.int, rfl, .inl (lstOf (s1 _ _ hr)), fun c nc => ?_⟩
    have sc : Same H'' (upd H'' c (.lst (m[j].map V.int))) := Same.new nc
    have nC : c ≠ C := fun z => by rw [z, hH'] at nc; cases nc
    refine lc_nx (by omega) hacc (sc _ _ hH') ⟨fun b' o e => ?_, cs ++ [c], by simp, by simp [hl], ?_, fun b' hb' => ?_, fun k b' r h1 h2 => ?_⟩
    · rw [upd_ne (ne_of_none e hC)]
      exact sc _ _ (s1 _ _ e)
    · rw [List.nodup_append]
      refine ⟨hnd, by simp, fun u hu w hw2 => ?_⟩
      cases List.mem_singleton.mp hw2
      intro z
      subst z
      obtain ⟨k, hk, e⟩ := List.mem_iff_getElem.mp hu
      have := hrow k u m[k] (by rw [← e]; exact List.getElem?_eq_getElem hk) (List.getElem?_eq_getElem (by omega))
      rw [nc] at this
      cases this
    · rcases List.mem_append.mp hb' with hb' | hb'
      · exact hf b' hb'
      · cases List.mem_singleton.mp hb'
        exact ⟨s1.free nc, nC⟩
    · rcases Nat.lt_or_ge k cs.length with hk | hk
      · rw [List.getElem?_append_left hk] at h1
        have := hf b' (List.mem_of_getElem? h1)
        rw [upd_ne this.2]
        exact sc _ _ (hrow k b' r h1 h2)
      · have hk2 : k = cs.length := by
          have := (List.getElem?_eq_some_iff.mp h1).1
          simp at this
          omega
        subst hk2
        rw [List.getElem?_append_right (Nat.le_refl _)] at h1
        have eb : c = b' := by simpa using h1
        subst eb
        rw [hl, List.getElem?_eq_getElem hjm] at h2
        cases h2
        rw [upd_ne nC, upd_same]
  · rintro C acc H' hC hH' _ ⟨s1, cs, rfl, hl, hnd, hf, hrow⟩
    rw [List.length_map] at hl
    exact q C cs H' hC s1 ⟨hH', by rw [hl, M.len], hrow⟩ hnd hf
/-- [[e for p in range(n)] for l in range(k)] while dice are thrown -/
theorem lc_mat (K : PySem.W.Frag) {a : Addr} {te : TE} {il ip n k : Nat} {kk nn : Int} (ek : kk = (k : Int)) (en : nn = (n : Int)) (hk1 : k ≤ 1000) (hn1 : n ≤ 1000) (hd : Dice H a) (P : Nat → Nat → Int → Prop)
    (hw1 : ∀ x, wipe ((wipe σ [il]).set il (some x)) [il] = wipe σ [il]) (hw2 : ∀ x y, wipe ((wipe ((wipe σ [il]).set il (some x)) [ip]).set ip (some y)) [ip] = wipe ((wipe σ [il]).set il (some x)) [ip])
    (he : ∀ (l p : Nat) (H' : Hp) (Qe : VK), l < k → p < n → But a H H' → (∀ x H'', But a H' H'' → P l p x → Qe (.int x) H'') → te ((wipe ((wipe σ [il]).set il (some (.int (0 + (l : Int))))) [ip]).set ip (some (.int (0 + (p : Int))))) H' Qe)
    (q : ∀ (F : Addr) (as : List Addr) (m : List (List Int)) (H2 : Hp), H F = none → But a H H2 → F ≠ a → MatAt H2 F as m → m.length = k → (∀ r ∈ m, r.length = n) → (∀ b ∈ as, H b = none ∧ b ≠ F ∧ b ≠ a) → (∀ l p : Nat, l < k → p < n → P l p ((m.getD l []).getD p 0)) → Q (.ref F) H2) :
    LcGoal (Itr 0 kk.toNat) (gName il) tYes (tLc (iRng1 (tCons (tC (.int nn)) tNil)) (gName ip) tYes te [ip]) [il] σ H Q := by
  subst ek en
  rw [Int.toNat_natCast]
  refine lc_go walk_range (by omega) (fun F i acc H' => But a H H' ∧ F ≠ a ∧ ∃ (as : List Addr) (m : List (List Int)), acc = as.map V.ref ∧ as.length = i ∧ m.length = i ∧ (∀ b ∈ as, H b = none ∧ b ≠ F ∧ b ≠ a) ∧ (∀ r ∈ m, r.length = n) ∧ (∀ (j : Nat) (b : Addr) (r : List Int), as[j]? = some b → m[j]? = some r → H' b = some (.lst (r.map V.int))) ∧ ∀ l p : Nat, l < i → p < n → P l p ((m.getD l []).getD p 0))
    (fun F hF => ⟨But.of hd (Same.new hF), hd.ne hF, [], [], rfl, rfl, rfl, by simp, by simp, by simp, fun l p h => by omega⟩) (fun _ _ _ _ _ _ _ => trivial) ?_ ?_
  · rintro F i acc x H' H'' hF hi hacc hH' ⟨b1, nF, as, m, rfl, hl, hml, hf, hr, hrow, hP⟩ ⟨rfl, rfl⟩
    refine w_name ⟨hw1 _, w_yes (if_t rfl (w_lc (w_rng1 (w_cons (w_c (w_nil ⟨_, rfl, by omega, by omega, ?_⟩))))))⟩
    rw [Int.toNat_natCast]
    refine lc_dice (K := K) walk_range (by omega) (fun j ds => ∃ ns : List Int, ds = ns.map PyData.int ∧ ns.length = j ∧ ∀ p, p < j → P i p (ns.getD p 0)) b1.d1 ⟨[], rfl, rfl, fun p h => by omega⟩ (fun _ _ => trivial) ?_ ?_
    · rintro C j acc2 y G' G'' hC hj hacc2 hG' ⟨b2, nC, ds, h1, h2, ns, rfl, hnl, hnP⟩ ⟨rfl, rfl⟩
      refine w_name ⟨hw2 _ _, w_yes (if_t rfl (he i j G'' _ hi hj (b1.trans b2) fun x H3 b3 hx => ?_))⟩
      refine lcr_nx hC (by omega) hacc2 hG' b2 nC h1 h2 b3 (.int x) rfl ⟨ns ++ [x], by rw [List.map_append]; rfl, by simp [hnl], fun p hp => ?_⟩
      rcases Nat.lt_or_ge p ns.length with h | h
      · rw [List.getD_eq_getElem?_getD, List.getElem?_append_left h, ← List.getD_eq_getElem?_getD]
        exact hnP p (by omega)
      · have : p = j := by omega
        subst this
        rw [List.getD_eq_getElem?_getD, ← hnl, List.getElem?_append_right (Nat.le_refl _)]
        simpa [hnl] using hx
    · rintro C acc2 ds G hC b2 nC hG h1 _ ⟨ns, rfl, hnl, hnP⟩
      have e := dpAll_intsV h1
      subst e
      have nCF : C ≠ F := (ne_of_none hH' hC).symm
      have hFG := b2.kp _ _ hH' nF
      refine lc_nx (by omega) hacc hFG ⟨(b1.trans b2).mut hF nF, nF, as ++ [C], m ++ [ns], by simp, by simp [hl], by simp [hml], fun b hb => ?_, fun r hr2 => ?_, fun j b r h3 h4 => ?_, fun l p hl2 hp => ?_⟩
      · rcases List.mem_append.mp hb with hb | hb
        · exact hf b hb
        · cases List.mem_singleton.mp hb
          exact ⟨b1.free hC, nCF, nC⟩
      · rcases List.mem_append.mp hr2 with hr2 | hr2
        · exact hr r hr2
        · cases List.mem_singleton.mp hr2
          exact hnl
      · rcases Nat.lt_or_ge j as.length with hj | hj
        · rw [List.getElem?_append_left hj] at h3
          rw [List.getElem?_append_left (by omega)] at h4
          have hfb := hf b (List.mem_of_getElem? h3)
          rw [upd_ne hfb.2.1]
          exact b2.kp _ _ (hrow j b r h3 h4) hfb.2.2
        · have hj2 : j = as.length := by
            have := (List.getElem?_eq_some_iff.mp h3).1
            simp at this
            omega
          subst hj2
          rw [List.getElem?_append_right (Nat.le_refl _)] at h3
          have eb : C = b := by simpa using h3
          subst eb
          rw [hl, ← hml, List.getElem?_append_right (Nat.le_refl _)] at h4
          have er : ns = r := by simpa using h4
          subst er
          rw [upd_ne nCF]
          exact hG
      · rcases Nat.lt_or_ge l m.length with h | h
        · rw [List.getD_eq_getElem?_getD (l := m ++ [ns]), List.getElem?_append_left h, ← List.getD_eq_getElem?_getD]
          exact hP l p (by omega) hp
        · have e : l = m.length := by omega
          subst e
          rw [List.getD_eq_getElem?_getD (l := m ++ [ns]), List.getElem?_append_right (Nat.le_refl _)]
          have := hnP p hp
          rw [← hml] at this
          simpa using this
  · rintro F acc H' hF hH' _ ⟨b1, nF, as, m, rfl, hl, hml, hf, hr, hrow, hP⟩
    exact q F as m H' hF b1 nF ⟨hH', by rw [hl, hml], hrow⟩ hml hr hf hP
end
end RG
namespace RG
open PySem PySem.Spec PyProof.Rows L2 LamX
theorem Fnd.s {K : PySem.W.Frag} {T : List (Addr × Str)} {H0 H H2 : Hp} {F : Addr} {cs : List PyData} (f : Fnd K T H0 F cs H) (s : Same H H2) : Fnd K T H0 F cs H2 := by
  obtain ⟨xs, h1, h2⟩ := f.is
  exact ⟨f.ex.same s, f.nw, ⟨xs, s _ _ h1, dps_s s h2⟩, f.im⟩
theorem fnd_appK {K : PySem.W.Frag} {T : List (Addr × Str)} {H0 H1 H : Hp} {F : Addr} {v : V} {d : PyData} {cs : List PyData} {Q : VK} (f : Fnd K T H0 F cs H1) (e : ExT T H1 H) (hv : Dp K H v d) (hi : imm d = true) (hl : cs.length < 1000) (q : ∀ H2, Fnd K T H0 F (cs ++ [d]) H2 → KpB (fun b => b = F) H1 H2 → Q .non H2) : rAppend (.ref F) [v] H Q := by
  obtain ⟨xs, hF, hx⟩ := f.is
  have hF2 := lst_eT e hF
  have hx2 := dps_eT e hx
  have him : immAll (cs ++ [d]) = true := by
    rw [immAll_app, f.im]
    simp [immAll, hi]
  refine w_app hF2 (by rw [dpAll_len hx]; omega) (q _ ⟨(f.ex.trans e).mut f.nw hF2, f.nw, ⟨_, upd_same, dpAll_mut hF2 him (dpAll_app hx2 (.cons hv .nil))⟩, him⟩ fun b o h n m => ?_)
  rw [upd_ne n]
  exact e.ex b o h m
theorem eqv_refD (c : Str) : PyData.eqv (refD c) (refD c) = true := by simp [PyData.eqv, PyData.eqvAll]
theorem gd_refs {c : Str} {n : Nat} (hc : PyData.canLay0 (.str c) = true) (hn : n ≤ 1000) : Gd 64 (.list (List.replicate n (refD c))) := gd_list (n := 63) (gds_mem fun d hd => by
  cases (List.mem_replicate.mp hd).2
  exact gd_tup (gds_cons (gd_str (by decide +kernel)) (gds_cons (gd_str hc) gds_nil)) (by simp)) (by rw [List.length_replicate]; exact hn)
/-- found != [("refused", c)] * len(found), all of found being so -/
theorem w_allRef {K : PySem.W.Frag} {T : List (Addr × Str)} {σ : L2.St} {H0 H : Hp} {F : Addr} {c : Str} {n i : Nat} {Q : VK} (f : Fnd K T H0 F (List.replicate n (refD c)) H) (hc : PyData.canLay0 (.str c) = true) (hn : n ≤ 1000) (e : σ[i]? = some (some (.ref F))) (q : ∀ H2, Same H H2 → Q (.bl false) H2) :
    tOp (rNeD K) (tVar i) (tOp rRep (tLst (tCons (tTup (tCons (tC (.str "refused")) (tCons (tC (.str c)) tNil))) tNil)) (tCB (cLen K) (tCons (tVar i) tNil))) σ H Q := by
  obtain ⟨xs, hF, hx⟩ := f.is
  have hl := dpAll_len hx
  rw [List.length_replicate] at hl
  refine w_op ⟨_, e, w_op ?_⟩
  refine evl_use (K := K) (evl_lst (evds_cons (evd_tup (evds_cons evd_str (evds_cons evd_str evds_nil)) (len_ok rfl)) evds_nil) (len_ok rfl)) fun p vs H1 s1 np hp hv => ?_
  refine w_cb (w_cons ⟨_, e, w_nil (w_lenL (lstOf (s1 _ _ hF)) ?_)⟩)
  rw [hl]
  have hvl := dpAll_len hv
  refine ⟨p, (n : Nat), vs, rfl, rfl, hp, by omega, by omega, sz (by rw [Int.toNat_natCast, hvl]; simp; omega), fun r nr => ?_⟩
  rw [Int.toNat_natCast]
  have sr : Same H1 (upd H1 r (.lst (List.replicate n vs).flatten)) := Same.new nr
  have hd : DpAll K (upd H1 r (.lst (List.replicate n vs).flatten)) (List.replicate n vs).flatten (List.replicate n [refD c]).flatten := dpAll_rep (dps_s sr hv) n
  rw [show (List.replicate n [refD c]).flatten = List.replicate n (refD c) by simp] at hd
  have g := gd_refs (n := n) hc hn
  refine w_neD (dp_s (s1.trans sr) f.dp) (.lst (lstOf upd_same) hd) g.sh g.sh ?_
  rw [eqv_listSelf fun d hd => by
    cases (List.mem_replicate.mp hd).2
    exact eqv_refD c]
  exact q _ (s1.trans sr)
end RG
/-! ### sets of texts: set(xs), sorted(set(xs)) -/
namespace RG
open PySem PySem.Spec PyProof.Rows L2
/-- a new set's object -/
abbrev newSet (w : World) : Obj := { cls := .type "set", dict := none, data := .set #[] 0 (.fresh 0 0 (!w.params.followText "set-order")) }
def keyS (e : Int × Value) : Str := match e.2 with
  | .str z _ => z
  | _ => Str.empty
def GoodS (w : World) (e : Int × Value) : Prop := ∃ z tk, e.2 = Value.str z tk ∧ e.1 = hashStr w z
/-- the set of texts at a: S its members, c their number -/
def SetS (w : World) (h : Heap) (a : Addr) (S : Str → Bool) (c : Nat) : Prop :=
  ∃ o es ep t, h.get? a = some o ∧ o.ExactSet ∧ o.data = .set es ep t ∧ (∀ e ∈ es.toList, GoodS w e) ∧ (es.toList.map keyS).Nodup ∧ (∀ k, S k = true ↔ k ∈ es.toList.map keyS) ∧ es.size < scanBound ∧ t.fits es.size = true ∧ es.size = c ∧ Ris t.place.toList ∧ (w.params.followText "set-order" = true ∨ t.led = true)
section
variable {P : Program} {w : World} {h h' : Heap} {a : Addr} {S : Str → Bool} {c : Nat}
theorem SetS.at (R : SetS w h a S c) (k : ∀ o, h.get? a = some o → h'.get? a = some o) : SetS w h' a S c := by
  obtain ⟨o, es, ep, t, ho, r⟩ := R
  exact ⟨o, es, ep, t, k o ho, r⟩
theorem SetS.congr {S' : Str → Bool} (R : SetS w h a S c) (e : ∀ k, S' k = S k) : SetS w h a S' c := by
  rw [show S' = S from funext e]
  exact R
theorem goodS_elems {l : List (Int × Value)} (g : ∀ e ∈ l, GoodS w e) : ElemsOf (PySem.strKind P w) l := fun e he => by
  obtain ⟨k, tk, h1, h2⟩ := g e he
  exact ⟨⟨k, by rw [h1]; exact PySem.strKind_is P w k tk, h2⟩, by rw [h1] <;> rfl⟩
theorem goodS_is {e : Int × Value} (g : GoodS w e) (k : Str) : (PySem.strKind P w).is k e.2 = true ↔ keyS e = k := by
  obtain ⟨z, tk, h1, _⟩ := g
  have hz : keyS e = z := by unfold keyS; rw [h1]
  rw [hz]
  constructor
  · intro q
    rw [h1] at q
    exact (PySem.strKind P w).inj _ _ _ (PySem.strKind_is P w z tk) q
  · rintro rfl
    rw [h1]
    exact PySem.strKind_is P w z tk
theorem goodS_mem {l : List (Int × Value)} (g : ∀ e ∈ l, GoodS w e) (k : Str) : k ∈ l.map keyS ↔ ∃ e ∈ l, (PySem.strKind P w).is k e.2 = true := by
  rw [List.mem_map]
  exact ⟨fun ⟨e, he, q⟩ => ⟨e, he, (goodS_is (g e he) k).2 q⟩, fun ⟨e, he, q⟩ => ⟨e, he, (goodS_is (g e he) k).1 q⟩⟩
theorem setS_new (ho : h.get? a = some (newSet w)) : SetS w h a (fun _ => false) 0 :=
  ⟨_, #[], 0, _, ho, ⟨rfl, rfl, rfl⟩, rfl, (fun e he => by simp at he), (by simp), (fun k => by simp), (by decide), (by rfl), rfl, List.Pairwise.nil, (by
    show _ ∨ (!w.params.followText "set-order") = true
    cases w.params.followText "set-order" <;> simp)⟩
end
section
variable {P : Program} {w : World} {A : Around} {E : Value → Shared → Prop} {s : Shared} {a : Addr} {S : Str → Bool} {c : Nat}
theorem setS_tail {g : Bool → Sem Unit} (hg : ∀ (b : Bool) (s₁ : Shared) (Q' : Unit → Shared → Prop), Q' () s₁ → wpAny (model P w) A (g b) Q' E s₁) {o : Obj} {es : Array (Int × Value)} {ep : Nat} {t : SetTable} (ho : s.heap.get? a = some o) (hex : o.ExactSet) (hd : o.data = .set es ep t)
    {es1 : Array (Int × Value)} {t2 : SetTable} {S' : Str → Bool} (g1 : ∀ e ∈ es1.toList, GoodS w e) (nd1 : (es1.toList.map keyS).Nodup) (m1 : ∀ k, S' k = true ↔ k ∈ es1.toList.map keyS) (hb1 : es1.size < scanBound) (hf2 : t2.fits es1.size = true) (hr : Ris t2.place.toList) (hl : w.params.followText "set-order" = true ∨ t2.led = true) {dm : Bool} {R : Option Bool → Shared → Prop}
    (hR : ∀ h', Heap.SameBut a s.heap h' → SetS w h' a S' es1.size → R (some true) { s with heap := h' }) :
    wpAny (model P w) A (do
        storeSet a es1 t2
        if (!dm && t2.tooFull) = true then do
            g (relayAll t2 es1 (SetTable.grown es1.size)).2.2
            storeSet a (relayAll t2 es1 (SetTable.grown es1.size)).1 (relayAll t2 es1 (SetTable.grown es1.size)).2.1
            pure (some true)
          else pure (some true)) R E s := by
  refine wpAny_bind (wpAny_storeSet_of ho hd ?_ (fits_of_scanBound hb1))
  have ho1 := store_at (es' := es1) (t' := t2) ho hd
  have sb1 := Heap.SameBut.update s.heap a (Obj.putSet es1 t2)
  split
  · have pm := relayAll_perm t2 es1 (SetTable.grown es1.size)
    have hf3 := relayAll_fits t2 es1 (SetTable.grown es1.size)
    have hr3 := relayAll_ris t2 es1 (SetTable.grown es1.size)
    have hl3 := relayAll_led t2 es1 (SetTable.grown es1.size)
    generalize relayAll t2 es1 (SetTable.grown es1.size) = Z at pm hf3 hr3 hl3 ⊢
    obtain ⟨es2, t3, gv⟩ := Z
    dsimp only at pm hf3 hr3 hl3 ⊢
    have hsz : es2.size = es1.size := by rw [← Array.length_toList, pm.length_eq, Array.length_toList]
    have hb2 : es2.size < scanBound := hsz ▸ hb1
    refine wpAny_bind (hg _ _ _ ?_)
    refine wpAny_bind (wpAny_storeSet_of ho1 rfl ?_ (fits_of_scanBound hb2))
    have ho2 := store_at (es' := es2) (t' := t3) ho1 rfl
    refine wpAny_pure (hR _ (sb1.trans (Heap.SameBut.update _ a _)) ⟨_, es2, _, t3, ho2, hex, rfl, fun e he => g1 e (pm.mem_iff.mp he), (pm.map keyS).nodup_iff.mpr nd1, fun k => (m1 k).trans (pm.map keyS).mem_iff.symm, hb2, hf3, hsz, hr3, hl.imp id fun z => by rw [hl3]; exact z⟩)
  · exact wpAny_pure (hR _ sb1 ⟨_, es1, _, t2, ho1, hex, rfl, g1, nd1, m1, hb1, hf2, rfl, hr, hl⟩)
theorem setS_hashed {k : Str} {tk : Tok} {Q : Bool → Shared → Prop} (R : SetS w s.heap a S c) (room : c + 1 < scanBound)
    (hQ : ∀ h', Heap.SameBut a s.heap h' → SetS w h' a (fun j => S j || decide (j = k)) (if S k = true then c else c + 1) → Q (!S k) { s with heap := h' }) :
    wpAny (model P w) A (setAddHashed a (.str k tk) ((PySem.strKind P w).hash k)) Q E s := by
  obtain ⟨o, es, ep, t, ho, hex, hd, g, nd, hm, hb, hf, hn, hr, hl⟩ := R
  have hkey : (PySem.strKind P w).is k (.str k tk) = true := PySem.strKind_is P w k tk
  have hsc : (Value.str k tk).scannable = true := rfl
  have hel : ElemsOf (PySem.strKind P w) es.toList := goodS_elems g
  unfold setAddHashed setAddHashedIn
  refine wpAny_holding (wpAny_bind (wpAny_setState_of ho hd hf ?_))
  dsimp only
  rw [byScan_of hsc hb hel]
  simp only [↓reduceIte]
  unfold setAddByScan
  refine wpAny_bind ?_
  refine wpAny_bind (wpAny_rule ?_)
  refine wpAny_bind (wpAny_setScan_of hkey ho hd hf hel ?_)
  cases hfi : List.findIdx? (fun e => (PySem.strKind P w).is k e.2) es.toList with
  | some j =>
    dsimp only
    obtain ⟨hj, pj, _⟩ := List.findIdx?_eq_some_iff_getElem.mp hfi
    have hSk : S k = true := (hm k).2 ((goodS_mem (P := P) (w := w) g k).2 ⟨es.toList[j], List.getElem_mem hj, pj⟩)
    refine wpAny_pure (wpAny_pure ?_)
    have q := hQ s.heap (Heap.SameBut.refl a s.heap) ⟨o, es, ep, t, ho, hex, hd, g, nd, fun i => by
      rw [Bool.or_eq_true, decide_eq_true_eq, ← hm i]
      exact ⟨fun z => z.elim id fun e => by rw [e]; exact hSk, .inl⟩, hb, hf, by rw [if_pos hSk]; exact hn, hr, hl⟩
    rw [hSk] at q
    exact q
  | none =>
    dsimp only
    have hnk : k ∉ es.toList.map keyS := fun z => by
      obtain ⟨e, he, q⟩ := (goodS_mem (P := P) (w := w) g k).1 z
      have d := List.findIdx?_eq_none_iff.mp hfi e he
      rw [q] at d
      cases d
    have hSk : S k = false := by
      cases q : S k with
      | false => rfl
      | true => exact absurd ((hm k).1 q) hnk
    have hgw : ∀ (b : Bool) {s₁ : Shared} {Q' : Unit → Shared → Prop}, Q' () s₁ → wpAny (model P w) A (match b with | true => rule "set.scan.the-table-gave-way" | false => pure ()) Q' E s₁ := fun b s₁ Q' q => by cases b <;> first | exact wpAny_pure q | exact wpAny_rule q
    have pm := layNew_perm t es ((PySem.strKind P w).hash k) (.str k tk)
    have hf1 := layNew_fits t es ((PySem.strKind P w).hash k) (.str k tk)
    have hr1 := layNew_ris t es ((PySem.strKind P w).hash k) (.str k tk) hr
    have hl1 := layNew_led t es ((PySem.strKind P w).hash k) (.str k tk)
    generalize layNew t es ((PySem.strKind P w).hash k) (.str k tk) = Z at pm hf1 hr1 hl1 ⊢
    obtain ⟨es1, t1, dm, gv⟩ := Z
    dsimp only at pm hf1 hr1 hl1 ⊢
    rw [Array.toList_push] at pm
    have pc : es1.toList.Perm (((PySem.strKind P w).hash k, Value.str k tk) :: es.toList) := pm.trans (List.perm_append_singleton _ _)
    have pk : (es1.toList.map keyS).Perm (k :: es.toList.map keyS) := pc.map keyS
    have g1 : ∀ e ∈ es1.toList, GoodS w e := fun e he => by
      rcases List.mem_cons.mp (pc.mem_iff.mp he) with z | z
      · rw [z]
        exact ⟨k, tk, rfl, rfl⟩
      · exact g e z
    have nd1 : (es1.toList.map keyS).Nodup := pk.nodup_iff.mpr (List.nodup_cons.mpr ⟨hnk, nd⟩)
    have m1 : ∀ i, (S i || decide (i = k)) = true ↔ i ∈ es1.toList.map keyS := fun i => by
      rw [Bool.or_eq_true, decide_eq_true_eq, hm i, pk.mem_iff, List.mem_cons]
      exact Or.comm
    have hsz : es1.size = c + 1 := by rw [← Array.length_toList, pc.length_eq, List.length_cons, Array.length_toList, hn]
    have hb1 : es1.size < scanBound := hsz ▸ room
    have hled : w.params.followText "set-order" = true ∨ t1.led = true := hl.imp id fun z => by rw [hl1]; exact z
    have fin : ∀ h', Heap.SameBut a s.heap h' → SetS w h' a (fun j => S j || decide (j = k)) es1.size → Q true { s with heap := h' } := fun h' sb r => by
      have q := hQ h' sb
      rw [hSk] at q
      rw [hsz] at r
      exact q r
    refine wpAny_bind (hgw _ ?_)
    split
    · refine wpAny_bind ?_
      rw [hashByValue_scannable 8 hsc]
      refine wpAny_pure ?_
      refine setS_tail (fun b s₁ Q' q => by cases b <;> first | exact wpAny_pure q | exact wpAny_rule q) ho hex hd g1 nd1 m1 hb1 ?_ ?_ ?_ (fun h' sb r => by dsimp only; exact wpAny_pure (fin h' sb r))
      · first | (split <;> first | exact hf1 | exact SetTable.fits_plain_off hf1) | exact hf1
      · first | (split <;> exact hr1) | exact hr1
      · first | (split <;> exact hled) | exact hled
    · refine wpAny_bind (wpAny_pure ?_)
      simp only [↓reduceIte]
      exact setS_tail (fun b s₁ Q' q => by cases b <;> first | exact wpAny_pure q | exact wpAny_rule q) ho hex hd g1 nd1 m1 hb1 hf1 hr1 hled (fun h' sb r => by dsimp only; exact wpAny_pure (fin h' sb r))
theorem set_update_strs {I : Addr} {fp wr : List Addr} {G : Array GenState → Array GenState → Prop} {n : Nat} {Pv : Nat → Value → Prop} {St : Nat → Shared → Prop} {R : Result → Shared → Prop}
    (W : WalksS P w A.in1 I fp wr G n Pv St) (S : Addr) (hSf : S ∉ fp) (zs : List Str) (hn : n = zs.length) (hb : zs.length + 1 < scanBound) (hval : ∀ i v, Pv i v → ∃ z t, zs[i]? = some z ∧ v = .str z t) :
    ∀ (k i : Nat) (s : Shared), n - i = k → i ≤ n → St i s → (∃ c, c ≤ i ∧ SetS w s.heap S (fun j => decide (j ∈ zs.take i)) c) →
      (∀ s' c, Moved (S :: wr) G s s' → c ≤ n → SetS w s'.heap S (fun j => decide (j ∈ zs)) c → R (.ok (.ret .none)) s') → codeAny (model P w) A (.builtin "set.update.loop" ⟨[.ref S, .ref I], []⟩) R s := by
  have nw : S ∉ wr := fun h => hSf (W.sub _ h)
  have sb0 : ∀ b ∈ wr, b ∈ S :: wr := fun b hb => List.mem_cons_of_mem _ hb
  intro k
  induction k with
  | zero =>
    intro i s hk' hi hst ⟨c, hc, hS⟩ hR
    have hin : i = n := by omega
    subst hin
    refine codeAny_builtin F.entry_set_update_loop ?_
    rw [Around.under_plainId F.plain_set_update_loop _]
    show wpAny _ A.in1 (pyNext (.ref I) >>= _) _ _ s
    refine wpAny_bind (W.done s _ _ hst fun s' hm => ?_)
    show wpAny _ A.in1 (ret Value.none) _ _ s'
    rw [show zs.take i = zs from List.take_of_length_le (by omega)] at hS
    exact wpAny_pure (hR s' c (hm.mono sb0) hc (hS.at fun o e => hm.heap S o nw e))
  | succ k ih =>
    intro i s hk' hi hst ⟨c, hc, hS⟩ hR
    have hlt : i < n := by omega
    refine codeAny_builtin F.entry_set_update_loop ?_
    rw [Around.under_plainId F.plain_set_update_loop _]
    show wpAny _ A.in1 (pyNext (.ref I) >>= _) _ _ s
    refine wpAny_bind (W.item i s _ _ hlt hst fun v s' hP hst' hm => ?_)
    obtain ⟨z, t, hz, rfl⟩ := hval i v hP
    have hS' : SetS w s'.heap S (fun j => decide (j ∈ zs.take i)) c := hS.at fun o e => hm.heap S o nw e
    show wpAny _ A.in1 (holding [Value.str z t] (setAdd S (.str z t)) >>= _) _ _ s'
    refine wpAny_bind (wpAny_holding ?_)
    unfold setAdd
    refine wpAny_holding ?_
    refine wpAny_bind ((PySem.strKind P w).pyHash (k := z) (PySem.strKind_is _ _ _ _) ?_)
    refine setS_hashed (s := { s' with toks := s'.toks + 1 }) hS' (by omega) fun h' hsb hS2 => ?_
    have hS3 : SetS w h' S (fun j => decide (j ∈ zs.take (i + 1))) (if decide (z ∈ zs.take i) = true then c else c + 1) := hS2.congr fun j => by
      rw [List.take_add_one, hz]
      simp [List.mem_append]
    have hc3 : (if decide (z ∈ zs.take i) = true then c else c + 1) ≤ i + 1 := by split <;> omega
    refine wpAny_pure ⟨plainId_quiet F.plain_set_update_loop _, ih (i + 1) _ (by omega) hlt (W.frame _ s' _ _ hst' (Nat.le_succ _) fun b hb o e => by rw [hsb.2 b (fun h : b = S => hSf (by rw [← h]; exact hb))]; exact e) ⟨_, hc3, hS3⟩ fun s'' c2 hm'' hc'' hS'' => ?_⟩
    refine hR s'' c2 (Moved.trans W.gtrans ((hm.mono sb0).then_heap (Nat.le_succ _) fun b o hb e => by rw [hsb.2 b (fun h : b = S => hb (by rw [h]; exact List.mem_cons_self))]; exact e) hm'') hc'' hS''
theorem strs_of : ∀ {us : List Value} {xs : List Str}, StrsAre us xs → ∀ (i : Nat) (v : Value), us[i]? = some v → ∃ t, v = .str (xs.getD i Str.empty) t
  | _, _, .nil, i, v, h => by simp at h
  | _, _, .cons z t r, 0, v, h => by
    simp at h
    subst h
    exact ⟨t, rfl⟩
  | _, _, .cons z t r, i + 1, v, h => by
    obtain ⟨u, e⟩ := strs_of r i v (by simpa using h)
    exact ⟨u, by simpa using e⟩
set_option maxHeartbeats 3200000 in
theorem call_set_strL {l : Addr} {items : Array Value} (zs : List Str) {Q : Value → Shared → Prop} (hh : A.handled = none) (hl : s.heap.IsList l items) (hit : StrsAre items.toList zs) (hb : zs.length + 1 < scanBound)
    (h : ∀ (h' : Heap) (tk c : Nat), SetS w h' s.heap.objs.size (fun j => decide (j ∈ zs)) c → c ≤ zs.length → (∀ b o, s.heap.get? b = some o → h'.get? b = some o) → Q (.ref s.heap.objs.size) { s with heap := h', toks := tk }) :
    wpAny (model P w) A (call (.type "set") [.ref l]) Q E s := by
  have hisz : items.size = zs.length := by rw [← Array.length_toList]; exact StrsAre.len_eq hit
  obtain ⟨c0, tl, hmro⟩ := PySem.F.called_set.mro
  have hmade := PySem.F.called_set.made
  have hsub := PySem.F.called_set.sub
  refine wpAny_call (codeAny_of_tree ?_)
  show wpAny _ _ (callAny (.type "set") _) _ _ _
  refine wpAny_pure ⟨Code.quiet_builtin _ (by decide +kernel), codeAny_builtin PySem.F.entry_type_call ?_⟩
  rw [Around.under_plain (weight_type_call_type "set" [.ref l] []) rfl]
  have h1 := PySem.F.called_set.notType
  have h2 := PySem.F.called_set.canCreate
  have hct := PySem.F.typeCall_set_1 (.ref l)
  repeat (any_goals (first | assumption | wp_step))
  refine codeAny_mono (code_set_led1 (.ref l) (E := E) (Q₁ := fun obj s₁ => obj = .ref s.heap.objs.size ∧ s₁ = { s with heap := s.heap.push (newSet w) }) ⟨rfl, rfl⟩) fun r s₁ hr => ?_
  cases r with
  | error e => exact hr
  | ok fl =>
    cases fl with
    | ret obj =>
      obtain ⟨rfl, rfl⟩ := hr
      have hS : (s.heap.push (newSet w)).get? s.heap.objs.size = some (newSet w) := Heap.get?_push_size _ rfl
      have hT : Shared.TypeIs { s with heap := s.heap.push (newSet w) } (.ref s.heap.objs.size) "set" := ⟨_, hS, rfl⟩
      have hli := PySem.F.called_set.init.lookup
      have hbi := PySem.F.called_set.init.bind (.ref s.heap.objs.size)
      repeat (any_goals (first | assumption | wp_step))
      refine codeAny_mono (codeAny_call_builtin (R := wants (fun r s₂ => r = .none ∧ ∃ h' tk c, s₂ = { s with heap := h', toks := tk } ∧ SetS w h' s.heap.objs.size (fun j => decide (j ∈ zs)) c ∧ c ≤ zs.length ∧ (∀ b o, s.heap.get? b = some o → h'.get? b = some o)) E) PySem.F.called_set.init.plain PySem.F.entry_set_init (check_set_init_1 hT ?_)) fun r₂ s₂ hr₂ => ?_
      · obtain ⟨ol, hol, hcl, nl, hdl⟩ := hl
        obtain ⟨ocls, odict, odata, oslots⟩ := ol
        simp only at hcl hdl
        subst hcl; subst hdl
        have hol' : (s.heap.push (newSet w)).get? l = some { cls := .type "list", dict := odict, data := .seq items nl, slots := oslots } := Heap.get?_push_of_some _ hol
        have hsls := PySem.F.sub_list_set
        have hslf := PySem.F.sub_list_frozenset
        have hne : (Value.type "list" == Value.type "dict") = false := by decide
        have hl1 : (s.heap.push (newSet w)).IsList l items := ⟨_, hol', rfl, nl, rfl⟩
        unfold Builtin.«set.__init__» noKeywords Builtin.Frozenset.updateFrom
        generalize hPI : pyIter = PI
        wp_walk
        subst hPI
        refine wpAny_pyIter_list hl1 ?_
        refine wpAny_bind (wpAny_runValue ?_)
        have hlS : l < s.heap.objs.size := Heap.lt_size hol
        have hh3 : A.in1.in1.in1.handled = none := by simp [hh]
        have hneI : l ≠ (s.heap.push (newSet w)).objs.size := by rw [Heap.size_push]; exact Nat.ne_of_lt (Nat.lt_succ_of_lt hlS)
        have hSf : s.heap.objs.size ∉ [(s.heap.push (newSet w)).objs.size, l] := by
          rw [Heap.size_push]
          simp only [List.mem_cons, List.not_mem_nil, or_false, not_or]
          exact ⟨Nat.ne_of_lt (Nat.lt_succ_self _), Nat.ne_of_gt hlS⟩
        have hval : ∀ (i : Nat) (v : Value), items[i]? = some v → ∃ z t, zs[i]? = some z ∧ v = .str z t := fun i v hv => by
          have hi : i < zs.length := by rw [← hisz]; exact (Array.getElem?_eq_some_iff.mp hv).1
          obtain ⟨t, e⟩ := strs_of hit i v (by rw [Array.getElem?_toList]; exact hv)
          exact ⟨zs[i], t, List.getElem?_eq_getElem hi, by rw [e, List.getD_eq_getElem?_getD, List.getElem?_eq_getElem hi] <;> rfl⟩
        refine set_update_strs ((Walks.list hh3 _ l hneI items).toS) s.heap.objs.size hSf zs hisz hb hval (items.size - 0) 0 _ (by omega) (Nat.zero_le _) ⟨⟨_, Heap.get?_push_size _ rfl, rfl, rfl⟩, (hl1.push _)⟩ ⟨0, Nat.le_refl 0, ?_⟩ ?hR
        · exact (setS_new (Heap.get?_push_of_some _ hS)).congr fun k => by simp
        case hR =>
          intro s' c' hm hc' hS'
          obtain ⟨h', g2, d', tk', os'⟩ := s'
          have eg : g2 = s.gens := hm.gens
          have ed : d' = s.drawn := hm.drawn
          have eo : os' = s.os := hm.os
          subst eg; subst ed; subst eo
          show wpAny _ _ _ _ _ _
          refine wpAny_pure ?_
          show wpAny _ _ (ret Value.none) _ _ _
          rw [hisz] at hc'
          refine wpAny_pure ⟨rfl, h', tk', c', rfl, hS', hc', fun b o e => ?_⟩
          have hb0 : b < s.heap.objs.size := Heap.lt_size e
          refine hm.heap b o ?_ (Heap.get?_push_of_some _ (Heap.get?_push_of_some _ e))
          simp only [List.mem_cons, List.not_mem_nil, or_false, not_or]
          exact ⟨Nat.ne_of_lt hb0, by rw [Heap.size_push]; exact Nat.ne_of_lt (Nat.lt_succ_of_lt hb0)⟩
      · cases r₂ with
        | error e => exact hr₂
        | ok fl₂ =>
          cases fl₂ with
          | ret r =>
            obtain ⟨rfl, h', tk, c', rfl, hS', hc', hk'⟩ := hr₂
            repeat (any_goals (first | assumption | wp_step))
            exact h _ _ _ hS' hc' hk'
          | _ => exact hr₂.elim
    | _ => exact hr.elim
set_option maxHeartbeats 3200000 in
theorem call_set_strT {l : Addr} {items : Array Value} (zs : List Str) {Q : Value → Shared → Prop} (hh : A.handled = none) (hl : s.heap.IsTuple l items) (hit : StrsAre items.toList zs) (hb : zs.length + 1 < scanBound)
    (h : ∀ (h' : Heap) (tk c : Nat), SetS w h' s.heap.objs.size (fun j => decide (j ∈ zs)) c → c ≤ zs.length → (∀ b o, s.heap.get? b = some o → h'.get? b = some o) → Q (.ref s.heap.objs.size) { s with heap := h', toks := tk }) :
    wpAny (model P w) A (call (.type "set") [.ref l]) Q E s := by
  have hisz : items.size = zs.length := by rw [← Array.length_toList]; exact StrsAre.len_eq hit
  obtain ⟨c0, tl, hmro⟩ := PySem.F.called_set.mro
  have hmade := PySem.F.called_set.made
  have hsub := PySem.F.called_set.sub
  refine wpAny_call (codeAny_of_tree ?_)
  show wpAny _ _ (callAny (.type "set") _) _ _ _
  refine wpAny_pure ⟨Code.quiet_builtin _ (by decide +kernel), codeAny_builtin PySem.F.entry_type_call ?_⟩
  rw [Around.under_plain (weight_type_call_type "set" [.ref l] []) rfl]
  have h1 := PySem.F.called_set.notType
  have h2 := PySem.F.called_set.canCreate
  have hct := PySem.F.typeCall_set_1 (.ref l)
  repeat (any_goals (first | assumption | wp_step))
  refine codeAny_mono (code_set_led1 (.ref l) (E := E) (Q₁ := fun obj s₁ => obj = .ref s.heap.objs.size ∧ s₁ = { s with heap := s.heap.push (newSet w) }) ⟨rfl, rfl⟩) fun r s₁ hr => ?_
  cases r with
  | error e => exact hr
  | ok fl =>
    cases fl with
    | ret obj =>
      obtain ⟨rfl, rfl⟩ := hr
      have hS : (s.heap.push (newSet w)).get? s.heap.objs.size = some (newSet w) := Heap.get?_push_size _ rfl
      have hT : Shared.TypeIs { s with heap := s.heap.push (newSet w) } (.ref s.heap.objs.size) "set" := ⟨_, hS, rfl⟩
      have hli := PySem.F.called_set.init.lookup
      have hbi := PySem.F.called_set.init.bind (.ref s.heap.objs.size)
      repeat (any_goals (first | assumption | wp_step))
      refine codeAny_mono (codeAny_call_builtin (R := wants (fun r s₂ => r = .none ∧ ∃ h' tk c, s₂ = { s with heap := h', toks := tk } ∧ SetS w h' s.heap.objs.size (fun j => decide (j ∈ zs)) c ∧ c ≤ zs.length ∧ (∀ b o, s.heap.get? b = some o → h'.get? b = some o)) E) PySem.F.called_set.init.plain PySem.F.entry_set_init (check_set_init_1 hT ?_)) fun r₂ s₂ hr₂ => ?_
      · obtain ⟨ol, hol, hcl, nl, hdl⟩ := hl
        obtain ⟨ocls, odict, odata, oslots⟩ := ol
        simp only at hcl hdl
        subst hcl; subst hdl
        have hol' : (s.heap.push (newSet w)).get? l = some { cls := .type "tuple", dict := odict, data := .seq items nl, slots := oslots } := Heap.get?_push_of_some _ hol
        have hsls := PySem.F.sub_tuple_set
        have hslf := PySem.F.sub_tuple_frozenset
        have hne : (Value.type "tuple" == Value.type "dict") = false := by decide
        have hl1 : (s.heap.push (newSet w)).IsTuple l items := ⟨_, hol', rfl, nl, rfl⟩
        unfold Builtin.«set.__init__» noKeywords Builtin.Frozenset.updateFrom
        generalize hPI : pyIter = PI
        wp_walk
        subst hPI
        refine wpAny_pyIter_tuple hl1 ?_
        refine wpAny_bind (wpAny_runValue ?_)
        have hlS : l < s.heap.objs.size := Heap.lt_size hol
        have hh3 : A.in1.in1.in1.handled = none := by simp [hh]
        have hneI : l ≠ (s.heap.push (newSet w)).objs.size := by rw [Heap.size_push]; exact Nat.ne_of_lt (Nat.lt_succ_of_lt hlS)
        have hSf : s.heap.objs.size ∉ [(s.heap.push (newSet w)).objs.size, l] := by
          rw [Heap.size_push]
          simp only [List.mem_cons, List.not_mem_nil, or_false, not_or]
          exact ⟨Nat.ne_of_lt (Nat.lt_succ_self _), Nat.ne_of_gt hlS⟩
        have hval : ∀ (i : Nat) (v : Value), items[i]? = some v → ∃ z t, zs[i]? = some z ∧ v = .str z t := fun i v hv => by
          have hi : i < zs.length := by rw [← hisz]; exact (Array.getElem?_eq_some_iff.mp hv).1
          obtain ⟨t, e⟩ := strs_of hit i v (by rw [Array.getElem?_toList]; exact hv)
          exact ⟨zs[i], t, List.getElem?_eq_getElem hi, by rw [e, List.getD_eq_getElem?_getD, List.getElem?_eq_getElem hi] <;> rfl⟩
        refine set_update_strs ((Walks.tuple hh3 _ l hneI items).toS) s.heap.objs.size hSf zs hisz hb hval (items.size - 0) 0 _ (by omega) (Nat.zero_le _) ⟨⟨_, Heap.get?_push_size _ rfl, rfl, rfl⟩, (hl1.push _)⟩ ⟨0, Nat.le_refl 0, ?_⟩ ?hR
        · exact (setS_new (Heap.get?_push_of_some _ hS)).congr fun k => by simp
        case hR =>
          intro s' c' hm hc' hS'
          obtain ⟨h', g2, d', tk', os'⟩ := s'
          have eg : g2 = s.gens := hm.gens
          have ed : d' = s.drawn := hm.drawn
          have eo : os' = s.os := hm.os
          subst eg; subst ed; subst eo
          show wpAny _ _ _ _ _ _
          refine wpAny_pure ?_
          show wpAny _ _ (ret Value.none) _ _ _
          rw [hisz] at hc'
          refine wpAny_pure ⟨rfl, h', tk', c', rfl, hS', hc', fun b o e => ?_⟩
          have hb0 : b < s.heap.objs.size := Heap.lt_size e
          refine hm.heap b o ?_ (Heap.get?_push_of_some _ (Heap.get?_push_of_some _ e))
          simp only [List.mem_cons, List.not_mem_nil, or_false, not_or]
          exact ⟨Nat.ne_of_lt hb0, by rw [Heap.size_push]; exact Nat.ne_of_lt (Nat.lt_succ_of_lt hb0)⟩
      · cases r₂ with
        | error e => exact hr₂
        | ok fl₂ =>
          cases fl₂ with
          | ret r =>
            obtain ⟨rfl, h', tk, c', rfl, hS', hc', hk'⟩ := hr₂
            repeat (any_goals (first | assumption | wp_step))
            exact h _ _ _ hS' hc' hk'
          | _ => exact hr₂.elim
    | _ => exact hr.elim
/-- sorted(s) -/
theorem sorted_setS {Q : Value → Shared → Prop} (R : SetS w s.heap a S c) (hh : A.handled = none) (h64 : c < 64)
    (hQ : ∀ s' p (out : Array Value) (n : Nat) (ys : List Str), (∀ b o, s.heap.get? b = some o → s'.heap.get? b = some o) → s'.gens = s.gens → s'.os = s.os → s.heap.objs.size ≤ p → s'.heap.get? p = some (seqObj "list" out n) → StrsAre out.toList ys → sortedS ys = true → ys.Nodup → (∀ k, k ∈ ys ↔ S k = true) → ys.length = c → Q (.ref p) s') :
    wpAny (model P w) A (call (.builtin "sorted") [.ref a]) Q E s := by
  obtain ⟨o, es, ep, t, ho, hex, hd, g, nd, hm, hb, hf, hn, hr, hl⟩ := R
  refine Calls.call_function_entry PyProof.Rows.kind_sorted PyProof.Rows.plain_sorted PyProof.Rows.entry_sorted (PyProof.Rows.args_sorted1 _) ?_
  unfold Builtin.«sorted»
  refine wpAny_bind (m := checkCount "sorted" 1 1 _) (wpAny_pure ?_)
  refine wpAny_bind (collect_set (A := A.in1) hh ⟨o, ho, hex.1, hd⟩ hf hb hr hl fun s1 vs k1 hz g1 o1 pm => ?_)
  have hvl : vs.length = c := by rw [pm.length_eq, List.length_map, Array.length_toList]; exact hn
  have hex2 : ∀ v ∈ vs, ∃ z tk, v = Value.str z tk := fun v hv => by
    obtain ⟨e, he, q⟩ := List.mem_map.mp (pm.mem_iff.mp hv)
    obtain ⟨z, tk, h1, _⟩ := g e he
    exact ⟨z, tk, by rw [← q]; exact h1⟩
  have hS : StrsAre vs (vs.map fun v => keyS (0, v)) := by
    clear pm hvl
    induction vs with
    | nil => exact .nil
    | cons v vs ih =>
      obtain ⟨z, tk, rfl⟩ := hex2 v List.mem_cons_self
      exact .cons z tk (ih fun u hu => hex2 u (List.mem_cons_of_mem _ hu))
  have pk : (vs.map fun v => keyS (0, v)).Perm (es.toList.map keyS) := by
    have q := pm.map fun v => keyS (0, v)
    rw [List.map_map] at q
    exact q
  refine wpAny_bind (wpAny_newList ?_ (by rw [hvl, sizeLine_eq]; omega))
  have hoL : (s1.heap.push (seqObj "list" vs.toArray 0)).get? s1.heap.objs.size = some (seqObj "list" vs.toArray 0) := Heap.get?_push_size _ rfl
  refine wpAny_bind (wpAny_holding (wpAny_call_entry PyProof.Rows.slot_list_sort ⟨_, hoL, rfl⟩ PyProof.Rows.entry_list_sort
    (list_sort_treeK strKind_oneLt (s := { s1 with heap := s1.heap.push (seqObj "list" vs.toArray 0) }) hoL hS.keysOf (fun v₁ v₂ rest e => keyKind_strs (by rw [← e]; exact hS)) (by rw [hvl]; exact h64) fun st' hp hs => ⟨_, rfl, ?_⟩) (PyProof.Rows.args_list_sort _)))
  obtain ⟨ys, y1, y2, y3⟩ := sorted_out_str hS hp hs
  obtain ⟨n, hc⟩ := PyProof.Rows.sortedHeap_at (vs := vs) (out := (arrOf st').map (·.2)) hoL
  have pn : ys.Perm (es.toList.map keyS) := y2.trans pk
  refine wpAny_pure ⟨_, rfl, hQ _ s1.heap.objs.size ((arrOf st').map (·.2)) n ys (fun b u e => ?_) g1 o1 hz hc y1 y3 (pn.nodup_iff.mpr nd) (fun k => by rw [pn.mem_iff, ← hm k]) (by rw [pn.length_eq, List.length_map, Array.length_toList]; exact hn)⟩
  have q := k1 b u e
  have hlt := Heap.lt_size q
  show (PyProof.Rows.sortedHeap (s1.heap.push (seqObj "list" vs.toArray 0)) s1.heap.objs.size vs ((arrOf st').map (·.2))).get? b = some u
  rw [PyProof.Rows.sortedHeap_old (Nat.ne_of_lt hlt) (by rw [size_push']; exact Nat.lt_succ_of_lt hlt)]
  exact Heap.get?_push_of_some _ q
end
/-- the set of texts at a -/
def SetSO (w : World) (a : Addr) (S : Str → Bool) (c : Nat) : HO := .ext fun h => SetS w h a S c
theorem setSO_new {w : World} {P : Program} {H : Hp} {h : Heap} {a : Addr} {S : Str → Bool} {c : Nat} (R : SetS w h a S c) : ObjOk P w H h a (SetSO w a S c) := by
  have ⟨o, _, _, _, ho, _⟩ := R
  exact ⟨R, ⟨o, ho⟩, fun h1 h2 p k => SetS.at p k⟩
theorem SetS.le {w : World} {h : Heap} {a : Addr} {S : Str → Bool} {c : Nat} {L : List Str} (R : SetS w h a S c) (hL : ∀ z, S z = true → z ∈ L) : c ≤ L.length := by
  obtain ⟨o, es, ep, t, ho, hex, hd, g, nd, hm, hb, hf, hn, _⟩ := R
  have e : (es.toList.map keyS).length = c := by rw [List.length_map, Array.length_toList]; exact hn
  rw [← e]
  have gen : ∀ {l L : List Str}, l.Nodup → (∀ x ∈ l, x ∈ L) → l.length ≤ L.length := by
    intro l
    induction l with
    | nil => intro L _ _; exact Nat.zero_le _
    | cons x l ih =>
      intro L n h
      rw [List.nodup_cons] at n
      have hx := h x (by simp)
      have := ih (L := L.erase x) n.2 fun y hy => (List.mem_erase_of_ne (fun (z : y = x) => n.1 (by rw [← z]; exact hy))).mpr (h y (by simp [hy]))
      rw [List.length_erase_of_mem hx] at this
      have := List.length_pos_of_mem hx
      rw [List.length_cons]
      omega
  exact gen nd fun x hx => hL x ((hm x).2 hx)
/-- set(xs) of texts; sorted of it, fewer than 64 members -/
def rSetS (K : PySem.W.Frag) (w : World) : List V → Hp → VK → Prop := fun xs H Q => ∃ (p : Addr) (zs : List Str), xs = [.ref p] ∧ (SqL K H p (zs.map V.str) ∨ SqT K H p (zs.map V.str)) ∧ zs.length ≤ 1000 ∧ ∀ a c, H a = none → Q (.ref a) (upd H a (SetSO w a (fun z => decide (z ∈ zs)) c))
def rSortS (w : World) : List V → Hp → VK → Prop := fun xs H Q => ∃ (a : Addr) (S : Str → Bool) (c : Nat) (L : List Str), xs = [.ref a] ∧ H a = some (SetSO w a S c) ∧ (∀ z, S z = true → z ∈ L) ∧ L.length < 64 ∧
  ∀ (ys : List Str) (p : Addr), sortedS ys = true → ys.Nodup → (∀ z, z ∈ ys ↔ S z = true) → H p = none → Q (.ref p) (upd H p (.lst (ys.map V.str)))
section
variable {X : Cx}
theorem cr_setS (hc : X.calm = true) : CallR X (.type "set") (rSetS X.K X.w) := by
  intro pins s σ H xs us Q I r h
  obtain ⟨p, zs, rfl, hs, hl, q⟩ := h
  obtain ⟨u, rfl, ru⟩ := vals1 r
  cases (show u = Value.ref p from ru)
  have fin : ∀ (h' : Heap) (tk c : Nat), SetS X.w h' s.heap.objs.size (fun j => decide (j ∈ zs)) c → c ≤ zs.length → (∀ b o, s.heap.get? b = some o → h'.get? b = some o) → EP X pins σ Q (.ref s.heap.objs.size) { s with heap := h', toks := tk } := fun h' tk c R _ hk =>
    ⟨.ref s.heap.objs.size, _, I.laid (t' := tk) hk (Nat.le_refl _) (setSO_new R), rfl, q _ c (I.hok.fresh (Nat.le_refl _))⟩
  rcases hs with hs | hs
  · obtain ⟨its, rv, ⟨ob, n, ho, hcl, hdn, hd⟩, hlen⟩ := I.list hs
    exact call_set_strL zs (I.ok.hd hc) ⟨ob, ho, hcl, n, hd⟩ rv.strs (by unfold scanBound; omega) fin
  · obtain ⟨its, rv, ⟨ob, ho, hcl, n, hd⟩, hlen⟩ := I.tuple hs
    exact call_set_strT zs (I.ok.hd hc) ⟨ob, ho, hcl, n, hd⟩ rv.strs (by unfold scanBound; omega) fin
theorem cr_sortS (hc : X.calm = true) : CallR X (.builtin "sorted") (rSortS X.w) := by
  intro pins s σ H xs us Q I r h
  obtain ⟨a, S, c, L, rfl, ha, hL, h64, q⟩ := h
  obtain ⟨u, rfl, ru⟩ := vals1 r
  cases (show u = Value.ref a from ru)
  have R : SetS X.w s.heap a S c := (I.hok a _ ha).1
  have hc64 := Nat.lt_of_le_of_lt (R.le hL) h64
  refine sorted_setS R (I.ok.hd hc) hc64 fun s' p out n ys hk eg eo hp hob hS hso hnd hmem hl => ?_
  have hlen : (ys.map V.str).length ≤ sizeLine := by rw [List.length_map, hl, sizeLine_eq]; omega
  have hn : H p = none := I.hok.fresh hp
  have J : Inv X pins σ (upd H p (.lst (ys.map V.str))) { s with heap := s'.heap, gens := s'.gens, drawn := s'.drawn, toks := s'.toks } :=
    I.call (ch := []) (Un.laid hk hp hn) (I.hok.laid hk hp ⟨hlen, out.toList, n, vals_of_strs hS, hob⟩) (by rw [eg]; exact I.bare) (fun _ z => nomatch z)
  have e : s' = { s with heap := s'.heap, gens := s'.gens, drawn := s'.drawn, toks := s'.toks } := by
    cases s'
    cases s
    cases eo
    rfl
  rw [e]
  exact ⟨.ref p, _, J, rfl, q ys p hso hnd hmem hn⟩
end
end RG
namespace RG
open PySem PySem.Spec PyProof.Rows L2
def top (i : Nat) : Stmt := PySem.Challenge.pw_rollgates_k52_whole_halls_shut_out.main.body.getD i (.Pass ⟨0, 0, 0, 0⟩)
abbrev s_Needed___init__ : Stmt := inClass (top 14) 0
abbrev s_is_number : Stmt := top 20
abbrev s_rest : Stmt := top 21
abbrev s_need_user : Stmt := top 22
abbrev s_need_deal : Stmt := top 23
abbrev s_place_of : Stmt := top 24
abbrev s_place : Stmt := top 25
abbrev s_is_name : Stmt := top 28
abbrev s_need_name : Stmt := top 29
abbrev s_need_many : Stmt := top 31
abbrev s_Hall___init__ : Stmt := inClass (top 32) 0
abbrev s_Hall_free : Stmt := inClass (top 32) 1
abbrev s_Hall___len__ : Stmt := inClass (top 32) 2
abbrev s_Hall_taken : Stmt := inClass (top 32) 3
abbrev s_Hall_come : Stmt := inClass (top 32) 4
abbrev s_Hall_need_switch : Stmt := inClass (top 32) 5
abbrev s_Hall_grow : Stmt := inClass (top 32) 6
abbrev s_Hall_held : Stmt := inClass (top 32) 7
abbrev s_Hall_shrink : Stmt := inClass (top 32) 8
abbrev s_Hall_owner : Stmt := inClass (top 32) 9
abbrev s_Hall_of : Stmt := inClass (top 32) 10
abbrev s_Hall_names : Stmt := inClass (top 32) 11
abbrev s__law_cell : Stmt := top 34
abbrev s__law_drawn : Stmt := top 35
abbrev s__law_roll : Stmt := top 36
abbrev s__law_rounds : Stmt := top 37
abbrev s__law_word : Stmt := top 38
abbrev s__law_told : Stmt := top 39
abbrev s__law_deal : Stmt := top 40
abbrev s__law_user : Stmt := top 41
abbrev s__law_name : Stmt := top 42
abbrev s__law_hall_deed : Stmt := top 43
abbrev s__law_hall_due : Stmt := top 44
abbrev s__law_hall_do : Stmt := top 45
abbrev s__law_hall_like : Stmt := top 46
abbrev s_law : Stmt := top 47
theorem sc_Needed___init__ : FnScope ["self", "by"] ["self", "by"] (defScope s_Needed___init__) := ⟨rfl, rfl, rfl, by decide +kernel, rfl, by decide +kernel, by decide +kernel⟩
theorem sc_is_number : FnScope ["thing", "low", "high"] ["thing", "low", "high"] (defScope s_is_number) := ⟨rfl, rfl, rfl, by decide +kernel, rfl, by decide +kernel, by decide +kernel⟩
theorem sc_rest : FnScope ["number", "by"] ["number", "by"] (defScope s_rest) := ⟨rfl, rfl, rfl, by decide +kernel, rfl, by decide +kernel, by decide +kernel⟩
theorem sc_need_user : FnScope ["thing"] ["thing"] (defScope s_need_user) := ⟨rfl, rfl, rfl, by decide +kernel, rfl, by decide +kernel, by decide +kernel⟩
theorem sc_need_deal : FnScope ["thing"] ["thing"] (defScope s_need_deal) := ⟨rfl, rfl, rfl, by decide +kernel, rfl, by decide +kernel, by decide +kernel⟩
theorem sc_place_of : FnScope ["number", "deal"] ["number", "deal"] (defScope s_place_of) := ⟨rfl, rfl, rfl, by decide +kernel, rfl, by decide +kernel, by decide +kernel⟩
theorem sc_place : FnScope ["user", "deal"] ["user", "deal"] (defScope s_place) := ⟨rfl, rfl, rfl, by decide +kernel, rfl, by decide +kernel, by decide +kernel⟩
theorem sc_is_name : FnScope ["thing", "sign"] ["thing"] (defScope s_is_name) := ⟨rfl, rfl, rfl, by decide +kernel, rfl, by decide +kernel, by decide +kernel⟩
theorem sc_need_name : FnScope ["thing"] ["thing"] (defScope s_need_name) := ⟨rfl, rfl, rfl, by decide +kernel, rfl, by decide +kernel, by decide +kernel⟩
theorem sc_need_many : FnScope ["thing", "least", "most"] ["thing", "least", "most"] (defScope s_need_many) := ⟨rfl, rfl, rfl, by decide +kernel, rfl, by decide +kernel, by decide +kernel⟩
theorem sc_Hall___init__ : FnScope ["self", "deal"] ["self", "deal"] (defScope s_Hall___init__) := ⟨rfl, rfl, rfl, by decide +kernel, rfl, by decide +kernel, by decide +kernel⟩
theorem sc_Hall_free : FnScope ["self", "at", "name"] ["self"] (defScope s_Hall_free) := ⟨rfl, rfl, rfl, by decide +kernel, rfl, by decide +kernel, by decide +kernel⟩
theorem sc_Hall___len__ : FnScope ["self", "name"] ["self"] (defScope s_Hall___len__) := ⟨rfl, rfl, rfl, by decide +kernel, rfl, by decide +kernel, by decide +kernel⟩
theorem sc_Hall_taken : FnScope ["self", "name", "many", "found", "at"] ["self", "name", "many"] (defScope s_Hall_taken) := ⟨rfl, rfl, rfl, by decide +kernel, rfl, by decide +kernel, by decide +kernel⟩
theorem sc_Hall_come : FnScope ["self", "name", "many"] ["self", "name", "many"] (defScope s_Hall_come) := ⟨rfl, rfl, rfl, by decide +kernel, rfl, by decide +kernel, by decide +kernel⟩
theorem sc_Hall_need_switch : FnScope ["self", "name"] ["self", "name"] (defScope s_Hall_need_switch) := ⟨rfl, rfl, rfl, by decide +kernel, rfl, by decide +kernel, by decide +kernel⟩
theorem sc_Hall_grow : FnScope ["self", "name", "many"] ["self", "name", "many"] (defScope s_Hall_grow) := ⟨rfl, rfl, rfl, by decide +kernel, rfl, by decide +kernel, by decide +kernel⟩
theorem sc_Hall_held : FnScope ["self", "name", "at", "own"] ["self", "name"] (defScope s_Hall_held) := ⟨rfl, rfl, rfl, by decide +kernel, rfl, by decide +kernel, by decide +kernel⟩
theorem sc_Hall_shrink : FnScope ["self", "name", "many", "some", "found", "at"] ["self", "name", "many"] (defScope s_Hall_shrink) := ⟨rfl, rfl, rfl, by decide +kernel, rfl, by decide +kernel, by decide +kernel⟩
theorem sc_Hall_owner : FnScope ["self", "at"] ["self", "at"] (defScope s_Hall_owner) := ⟨rfl, rfl, rfl, by decide +kernel, rfl, by decide +kernel, by decide +kernel⟩
theorem sc_Hall_of : FnScope ["self", "user"] ["self", "user"] (defScope s_Hall_of) := ⟨rfl, rfl, rfl, by decide +kernel, rfl, by decide +kernel, by decide +kernel⟩
theorem sc_Hall_names : FnScope ["self", "name"] ["self"] (defScope s_Hall_names) := ⟨rfl, rfl, rfl, by decide +kernel, rfl, by decide +kernel, by decide +kernel⟩
theorem sc__law_cell : FnScope ["script", "k"] ["script", "k"] (defScope s__law_cell) := ⟨rfl, rfl, rfl, by decide +kernel, rfl, by decide +kernel, by decide +kernel⟩
theorem sc__law_drawn : FnScope ["cell", "k", "more"] ["cell", "k"] (defScope s__law_drawn) := ⟨rfl, rfl, rfl, by decide +kernel, rfl, by decide +kernel, by decide +kernel⟩
theorem sc__law_roll : FnScope ["dice", "many", "told"] ["dice", "many"] (defScope s__law_roll) := ⟨rfl, rfl, rfl, by decide +kernel, rfl, by decide +kernel, by decide +kernel⟩
theorem sc__law_rounds : FnScope ["script", "most", "k"] ["script", "most"] (defScope s__law_rounds) := ⟨rfl, rfl, rfl, by decide +kernel, rfl, by decide +kernel, by decide +kernel⟩
theorem sc__law_word : FnScope ["e", "flags", "words", "flag"] ["e"] (defScope s__law_word) := ⟨rfl, rfl, rfl, by decide +kernel, rfl, by decide +kernel, by decide +kernel⟩
theorem sc__law_told : FnScope ["deed", "e"] ["deed"] (defScope s__law_told) := ⟨rfl, rfl, rfl, by decide +kernel, rfl, by decide +kernel, by decide +kernel⟩
theorem sc__law_deal : FnScope ["dice"] ["dice"] (defScope s__law_deal) := ⟨rfl, rfl, rfl, by decide +kernel, rfl, by decide +kernel, by decide +kernel⟩
theorem sc__law_user : FnScope ["dice", "number"] ["dice"] (defScope s__law_user) := ⟨rfl, rfl, rfl, by decide +kernel, rfl, by decide +kernel, by decide +kernel⟩
theorem sc__law_name : FnScope ["dice"] ["dice"] (defScope s__law_name) := ⟨rfl, rfl, rfl, by decide +kernel, rfl, by decide +kernel, by decide +kernel⟩
theorem sc__law_hall_deed : FnScope ["dice", "owners", "way", "name", "many"] ["dice", "owners"] (defScope s__law_hall_deed) := ⟨rfl, rfl, rfl, by decide +kernel, rfl, by decide +kernel, by decide +kernel⟩
theorem sc__law_hall_due : FnScope ["owners", "deed", "word", "name", "many", "at", "one", "own", "free"] ["owners", "deed"] (defScope s__law_hall_due) := ⟨rfl, rfl, rfl, by decide +kernel, rfl, by decide +kernel, by decide +kernel⟩
theorem sc__law_hall_do : FnScope ["hall", "deed"] ["hall", "deed"] (defScope s__law_hall_do) := ⟨rfl, rfl, rfl, by decide +kernel, rfl, by decide +kernel, by decide +kernel⟩
theorem sc__law_hall_like : FnScope ["hall", "owners", "one", "some", "at", "name"] ["hall", "owners"] (defScope s__law_hall_like) := ⟨rfl, rfl, rfl, by decide +kernel, rfl, by decide +kernel, by decide +kernel⟩
theorem sc_law : FnScope ["script", "dice", "deal", "hall", "owners", "turn", "deed", "users", "user", "own", "had", "name", "many", "kept", "some", "at", "one"] ["script"] (defScope s_law) := ⟨rfl, rfl, rfl, by decide +kernel, rfl, by decide +kernel, by decide +kernel⟩
def d_Needed___init__ : He.DefD := ⟨("Needed", some "__init__"), "__init__", "Needed.__init__", defArgs s_Needed___init__, defBody s_Needed___init__, defScope s_Needed___init__, [], []⟩
def d_is_number : He.DefD := ⟨("is_number", none), "is_number", "is_number", defArgs s_is_number, defBody s_is_number, defScope s_is_number, [], []⟩
def d_rest : He.DefD := ⟨("rest", none), "rest", "rest", defArgs s_rest, defBody s_rest, defScope s_rest, [], []⟩
def d_need_user : He.DefD := ⟨("need_user", none), "need_user", "need_user", defArgs s_need_user, defBody s_need_user, defScope s_need_user, [], []⟩
def d_need_deal : He.DefD := ⟨("need_deal", none), "need_deal", "need_deal", defArgs s_need_deal, defBody s_need_deal, defScope s_need_deal, [], []⟩
def d_place_of : He.DefD := ⟨("place_of", none), "place_of", "place_of", defArgs s_place_of, defBody s_place_of, defScope s_place_of, [], []⟩
def d_place : He.DefD := ⟨("place", none), "place", "place", defArgs s_place, defBody s_place, defScope s_place, [], []⟩
def d_is_name : He.DefD := ⟨("is_name", none), "is_name", "is_name", defArgs s_is_name, defBody s_is_name, defScope s_is_name, [], []⟩
def d_need_name : He.DefD := ⟨("need_name", none), "need_name", "need_name", defArgs s_need_name, defBody s_need_name, defScope s_need_name, [], []⟩
def d_need_many : He.DefD := ⟨("need_many", none), "need_many", "need_many", defArgs s_need_many, defBody s_need_many, defScope s_need_many, [], []⟩
def d_Hall___init__ : He.DefD := ⟨("Hall", some "__init__"), "__init__", "Hall.__init__", defArgs s_Hall___init__, defBody s_Hall___init__, defScope s_Hall___init__, [], []⟩
def d_Hall_free : He.DefD := ⟨("Hall", some "free"), "free", "Hall.free", defArgs s_Hall_free, defBody s_Hall_free, defScope s_Hall_free, [], []⟩
def d_Hall___len__ : He.DefD := ⟨("Hall", some "__len__"), "__len__", "Hall.__len__", defArgs s_Hall___len__, defBody s_Hall___len__, defScope s_Hall___len__, [], []⟩
def d_Hall_taken : He.DefD := ⟨("Hall", some "taken"), "taken", "Hall.taken", defArgs s_Hall_taken, defBody s_Hall_taken, defScope s_Hall_taken, [], []⟩
def d_Hall_come : He.DefD := ⟨("Hall", some "come"), "come", "Hall.come", defArgs s_Hall_come, defBody s_Hall_come, defScope s_Hall_come, [], []⟩
def d_Hall_need_switch : He.DefD := ⟨("Hall", some "need_switch"), "need_switch", "Hall.need_switch", defArgs s_Hall_need_switch, defBody s_Hall_need_switch, defScope s_Hall_need_switch, [], []⟩
def d_Hall_grow : He.DefD := ⟨("Hall", some "grow"), "grow", "Hall.grow", defArgs s_Hall_grow, defBody s_Hall_grow, defScope s_Hall_grow, [], []⟩
def d_Hall_held : He.DefD := ⟨("Hall", some "held"), "held", "Hall.held", defArgs s_Hall_held, defBody s_Hall_held, defScope s_Hall_held, [], []⟩
def d_Hall_shrink : He.DefD := ⟨("Hall", some "shrink"), "shrink", "Hall.shrink", defArgs s_Hall_shrink, defBody s_Hall_shrink, defScope s_Hall_shrink, [], []⟩
def d_Hall_owner : He.DefD := ⟨("Hall", some "owner"), "owner", "Hall.owner", defArgs s_Hall_owner, defBody s_Hall_owner, defScope s_Hall_owner, [], []⟩
def d_Hall_of : He.DefD := ⟨("Hall", some "of"), "of", "Hall.of", defArgs s_Hall_of, defBody s_Hall_of, defScope s_Hall_of, [], []⟩
def d_Hall_names : He.DefD := ⟨("Hall", some "names"), "names", "Hall.names", defArgs s_Hall_names, defBody s_Hall_names, defScope s_Hall_names, [], []⟩
def d__law_cell : He.DefD := ⟨("_law_cell", none), "_law_cell", "_law_cell", defArgs s__law_cell, defBody s__law_cell, defScope s__law_cell, [], []⟩
def d__law_drawn : He.DefD := ⟨("_law_drawn", none), "_law_drawn", "_law_drawn", defArgs s__law_drawn, defBody s__law_drawn, defScope s__law_drawn, [], []⟩
def d__law_roll : He.DefD := ⟨("_law_roll", none), "_law_roll", "_law_roll", defArgs s__law_roll, defBody s__law_roll, defScope s__law_roll, [], []⟩
def d__law_rounds : He.DefD := ⟨("_law_rounds", none), "_law_rounds", "_law_rounds", defArgs s__law_rounds, defBody s__law_rounds, defScope s__law_rounds, [], []⟩
def d__law_word : He.DefD := ⟨("_law_word", none), "_law_word", "_law_word", defArgs s__law_word, defBody s__law_word, defScope s__law_word, [], []⟩
def d__law_told : He.DefD := ⟨("_law_told", none), "_law_told", "_law_told", defArgs s__law_told, defBody s__law_told, defScope s__law_told, [], []⟩
def d__law_deal : He.DefD := ⟨("_law_deal", none), "_law_deal", "_law_deal", defArgs s__law_deal, defBody s__law_deal, defScope s__law_deal, [], []⟩
def d__law_user : He.DefD := ⟨("_law_user", none), "_law_user", "_law_user", defArgs s__law_user, defBody s__law_user, defScope s__law_user, [], []⟩
def d__law_name : He.DefD := ⟨("_law_name", none), "_law_name", "_law_name", defArgs s__law_name, defBody s__law_name, defScope s__law_name, [], []⟩
def d__law_hall_deed : He.DefD := ⟨("_law_hall_deed", none), "_law_hall_deed", "_law_hall_deed", defArgs s__law_hall_deed, defBody s__law_hall_deed, defScope s__law_hall_deed, [], []⟩
def d__law_hall_due : He.DefD := ⟨("_law_hall_due", none), "_law_hall_due", "_law_hall_due", defArgs s__law_hall_due, defBody s__law_hall_due, defScope s__law_hall_due, [], []⟩
def d__law_hall_do : He.DefD := ⟨("_law_hall_do", none), "_law_hall_do", "_law_hall_do", defArgs s__law_hall_do, defBody s__law_hall_do, defScope s__law_hall_do, [], []⟩
def d__law_hall_like : He.DefD := ⟨("_law_hall_like", none), "_law_hall_like", "_law_hall_like", defArgs s__law_hall_like, defBody s__law_hall_like, defScope s__law_hall_like, [], []⟩
def d_law : He.DefD := ⟨("law", none), "law", "law", defArgs s_law, defBody s_law, defScope s_law, [], []⟩
def fnl : List He.DefD := [d_Needed___init__, d_is_number, d_rest, d_need_user, d_need_deal, d_place_of, d_place, d_is_name, d_need_name, d_need_many, d_Hall___init__, d_Hall_free, d_Hall___len__, d_Hall_taken, d_Hall_come, d_Hall_need_switch, d_Hall_grow, d_Hall_held, d_Hall_shrink, d_Hall_owner, d_Hall_of, d_Hall_names, d__law_cell, d__law_drawn, d__law_roll, d__law_rounds, d__law_word, d__law_told, d__law_deal, d__law_user, d__law_name, d__law_hall_deed, d__law_hall_due, d__law_hall_do, d__law_hall_like, d_law]
def fal : List He.Fa := [.glo "is_number", .glo "rest", .glo "need_user", .glo "need_deal", .glo "place_of", .glo "place", .glo "is_name", .glo "need_name", .glo "need_many", .glo "_law_cell", .glo "_law_drawn", .glo "_law_roll", .glo "_law_rounds", .glo "_law_word", .glo "_law_told", .glo "_law_deal", .glo "_law_user", .glo "_law_name", .glo "_law_hall_deed", .glo "_law_hall_due", .glo "_law_hall_do", .glo "_law_hall_like", .glo "law", .glo "GateError", .exc "GateError", .glo "BadUser", .exc "BadUser", .glo "BadDeal", .exc "BadDeal", .glo "BadCondition", .exc "BadCondition", .glo "BadRules", .exc "BadRules", .glo "BadName", .exc "BadName", .glo "BadNumber", .exc "BadNumber", .glo "Known", .exc "Known", .glo "Ring", .exc "Ring", .glo "Full", .exc "Full", .glo "BadDay", .exc "BadDay", .glo "Nothing", .exc "Nothing", .glo "BadText", .exc "BadText", .glo "Needed", .glo "Hall", .cls "Hall", .mkr "Hall", .meth "Hall" "__init__", .meth "Hall" "free", .meth "Hall" "__len__", .meth "Hall" "taken", .meth "Hall" "come", .meth "Hall" "need_switch", .meth "Hall" "grow", .meth "Hall" "held", .meth "Hall" "shrink", .meth "Hall" "owner", .meth "Hall" "of", .meth "Hall" "names", .noat "Hall" "deal", .noat "Hall" "owners", .free "ValueError", .free "all", .free "bool", .free "enumerate", .free "int", .free "isinstance", .free "len", .free "list", .free "max", .free "min", .free "range", .free "set", .free "sorted", .free "str", .free "sum", .free "tuple", .int "GREATEST" 1000000000000, .int "LANDS" 6, .int "PLANS" 4, .int "PLACES" 100, .str "LETTERS" "abcdefghijklmnopqrstuvwxyz"]
def tfl : List He.Defn := [("_law_hall_do", none)]
abbrev tfS : List Str := ["_law_hall_do"]
def exl (K : PySem.W.Frag) : Bool := wordB K && apartB K tfS
structure Tx (K : PySem.W.Frag) (mg : Str → Option Value) : Prop where
  W : WordOk K
  G_is_number : mg "is_number" = some (.ref (He.ga K "is_number"))
  G_rest : mg "rest" = some (.ref (He.ga K "rest"))
  G_need_user : mg "need_user" = some (.ref (He.ga K "need_user"))
  G_need_deal : mg "need_deal" = some (.ref (He.ga K "need_deal"))
  G_place_of : mg "place_of" = some (.ref (He.ga K "place_of"))
  G_place : mg "place" = some (.ref (He.ga K "place"))
  G_is_name : mg "is_name" = some (.ref (He.ga K "is_name"))
  G_need_name : mg "need_name" = some (.ref (He.ga K "need_name"))
  G_need_many : mg "need_many" = some (.ref (He.ga K "need_many"))
  G__law_cell : mg "_law_cell" = some (.ref (He.ga K "_law_cell"))
  G__law_drawn : mg "_law_drawn" = some (.ref (He.ga K "_law_drawn"))
  G__law_roll : mg "_law_roll" = some (.ref (He.ga K "_law_roll"))
  G__law_rounds : mg "_law_rounds" = some (.ref (He.ga K "_law_rounds"))
  G__law_word : mg "_law_word" = some (.ref (He.ga K "_law_word"))
  G__law_told : mg "_law_told" = some (.ref (He.ga K "_law_told"))
  G__law_deal : mg "_law_deal" = some (.ref (He.ga K "_law_deal"))
  G__law_user : mg "_law_user" = some (.ref (He.ga K "_law_user"))
  G__law_name : mg "_law_name" = some (.ref (He.ga K "_law_name"))
  G__law_hall_deed : mg "_law_hall_deed" = some (.ref (He.ga K "_law_hall_deed"))
  G__law_hall_due : mg "_law_hall_due" = some (.ref (He.ga K "_law_hall_due"))
  G__law_hall_do : mg "_law_hall_do" = some (.ref (He.ga K "_law_hall_do"))
  G__law_hall_like : mg "_law_hall_like" = some (.ref (He.ga K "_law_hall_like"))
  G_law : mg "law" = some (.ref (He.ga K "law"))
  G_GateError : mg "GateError" = some (.ref (He.ga K "GateError"))
  X_GateError : Exn K mg "GateError"
  G_BadUser : mg "BadUser" = some (.ref (He.ga K "BadUser"))
  X_BadUser : Exn K mg "BadUser"
  G_BadDeal : mg "BadDeal" = some (.ref (He.ga K "BadDeal"))
  X_BadDeal : Exn K mg "BadDeal"
  G_BadCondition : mg "BadCondition" = some (.ref (He.ga K "BadCondition"))
  X_BadCondition : Exn K mg "BadCondition"
  G_BadRules : mg "BadRules" = some (.ref (He.ga K "BadRules"))
  X_BadRules : Exn K mg "BadRules"
  G_BadName : mg "BadName" = some (.ref (He.ga K "BadName"))
  X_BadName : Exn K mg "BadName"
  G_BadNumber : mg "BadNumber" = some (.ref (He.ga K "BadNumber"))
  X_BadNumber : Exn K mg "BadNumber"
  G_Known : mg "Known" = some (.ref (He.ga K "Known"))
  X_Known : Exn K mg "Known"
  G_Ring : mg "Ring" = some (.ref (He.ga K "Ring"))
  X_Ring : Exn K mg "Ring"
  G_Full : mg "Full" = some (.ref (He.ga K "Full"))
  X_Full : Exn K mg "Full"
  G_BadDay : mg "BadDay" = some (.ref (He.ga K "BadDay"))
  X_BadDay : Exn K mg "BadDay"
  G_Nothing : mg "Nothing" = some (.ref (He.ga K "Nothing"))
  X_Nothing : Exn K mg "Nothing"
  G_BadText : mg "BadText" = some (.ref (He.ga K "BadText"))
  X_BadText : Exn K mg "BadText"
  G_Needed : mg "Needed" = some (.ref (He.ga K "Needed"))
  G_Hall : mg "Hall" = some (.ref (He.ga K "Hall"))
  C_Hall : Cls K (He.ga K "Hall")
  K_Hall : Mk K (He.ga K "Hall") (He.ma K (He.ga K "Hall") "__init__")
  M_Hall___init__ : Meth K (He.ga K "Hall") "__init__" (He.ma K (He.ga K "Hall") "__init__")
  M_Hall_free : Meth K (He.ga K "Hall") "free" (He.ma K (He.ga K "Hall") "free")
  M_Hall___len__ : Meth K (He.ga K "Hall") "__len__" (He.ma K (He.ga K "Hall") "__len__")
  M_Hall_taken : Meth K (He.ga K "Hall") "taken" (He.ma K (He.ga K "Hall") "taken")
  M_Hall_come : Meth K (He.ga K "Hall") "come" (He.ma K (He.ga K "Hall") "come")
  M_Hall_need_switch : Meth K (He.ga K "Hall") "need_switch" (He.ma K (He.ga K "Hall") "need_switch")
  M_Hall_grow : Meth K (He.ga K "Hall") "grow" (He.ma K (He.ga K "Hall") "grow")
  M_Hall_held : Meth K (He.ga K "Hall") "held" (He.ma K (He.ga K "Hall") "held")
  M_Hall_shrink : Meth K (He.ga K "Hall") "shrink" (He.ma K (He.ga K "Hall") "shrink")
  M_Hall_owner : Meth K (He.ga K "Hall") "owner" (He.ma K (He.ga K "Hall") "owner")
  M_Hall_of : Meth K (He.ga K "Hall") "of" (He.ma K (He.ga K "Hall") "of")
  M_Hall_names : Meth K (He.ga K "Hall") "names" (He.ma K (He.ga K "Hall") "names")
  N_Hall_deal : NoAttr K (He.ga K "Hall") "deal"
  N_Hall_owners : NoAttr K (He.ga K "Hall") "owners"
  Z_ValueError : mg "ValueError" = none
  Z_all : mg "all" = none
  Z_bool : mg "bool" = none
  Z_enumerate : mg "enumerate" = none
  Z_int : mg "int" = none
  Z_isinstance : mg "isinstance" = none
  Z_len : mg "len" = none
  Z_list : mg "list" = none
  Z_max : mg "max" = none
  Z_min : mg "min" = none
  Z_range : mg "range" = none
  Z_set : mg "set" = none
  Z_sorted : mg "sorted" = none
  Z_str : mg "str" = none
  Z_sum : mg "sum" = none
  Z_tuple : mg "tuple" = none
  I_GREATEST : ∃ t, mg "GREATEST" = some (.int 1000000000000 t)
  I_LANDS : ∃ t, mg "LANDS" = some (.int 6 t)
  I_PLANS : ∃ t, mg "PLANS" = some (.int 4 t)
  I_PLACES : ∃ t, mg "PLACES" = some (.int 100 t)
  S_LETTERS : ∃ t, mg "LETTERS" = some (.str "abcdefghijklmnopqrstuvwxyz" t)
  F_is_number : FnAt K "is_number" s_is_number
  F_rest : FnAt K "rest" s_rest
  F_need_user : FnAt K "need_user" s_need_user
  F_need_deal : FnAt K "need_deal" s_need_deal
  F_place_of : FnAt K "place_of" s_place_of
  F_place : FnAt K "place" s_place
  F_is_name : FnAt K "is_name" s_is_name
  F_need_name : FnAt K "need_name" s_need_name
  F_need_many : FnAt K "need_many" s_need_many
  F_Hall___init__ : FnAtM K "Hall" "__init__" "Hall.__init__" s_Hall___init__
  F_Hall_free : FnAtM K "Hall" "free" "Hall.free" s_Hall_free
  F_Hall___len__ : FnAtM K "Hall" "__len__" "Hall.__len__" s_Hall___len__
  F_Hall_taken : FnAtM K "Hall" "taken" "Hall.taken" s_Hall_taken
  F_Hall_come : FnAtM K "Hall" "come" "Hall.come" s_Hall_come
  F_Hall_need_switch : FnAtM K "Hall" "need_switch" "Hall.need_switch" s_Hall_need_switch
  F_Hall_grow : FnAtM K "Hall" "grow" "Hall.grow" s_Hall_grow
  F_Hall_held : FnAtM K "Hall" "held" "Hall.held" s_Hall_held
  F_Hall_shrink : FnAtM K "Hall" "shrink" "Hall.shrink" s_Hall_shrink
  F_Hall_owner : FnAtM K "Hall" "owner" "Hall.owner" s_Hall_owner
  F_Hall_of : FnAtM K "Hall" "of" "Hall.of" s_Hall_of
  F_Hall_names : FnAtM K "Hall" "names" "Hall.names" s_Hall_names
  F__law_cell : FnAt K "_law_cell" s__law_cell
  F__law_drawn : FnAt K "_law_drawn" s__law_drawn
  F__law_roll : FnAt K "_law_roll" s__law_roll
  F__law_rounds : FnAt K "_law_rounds" s__law_rounds
  F__law_word : FnAt K "_law_word" s__law_word
  F__law_told : FnAt K "_law_told" s__law_told
  F__law_deal : FnAt K "_law_deal" s__law_deal
  F__law_user : FnAt K "_law_user" s__law_user
  F__law_name : FnAt K "_law_name" s__law_name
  F__law_hall_deed : FnAt K "_law_hall_deed" s__law_hall_deed
  F__law_hall_due : FnAt K "_law_hall_due" s__law_hall_due
  F__law_hall_do : FnAt K "_law_hall_do" s__law_hall_do
  F__law_hall_like : FnAt K "_law_hall_like" s__law_hall_like
  F_law : FnAt K "law" s_law
theorem tx_mk {K : PySem.W.Frag} {mg : Str → Option Value} {h : Heap} {w : World} (X : K.In h) (G : h.Ns mainGlobals mg) (c : He.SaysX fal fnl [] tfl exl w h K) : Tx K mg where
  W := wordB_ok (Bool.and_eq_true_iff.mp c.more).1
  G_is_number := He.glo_ok X G (c.t.d.fact 0 (f := .glo "is_number") rfl)
  G_rest := He.glo_ok X G (c.t.d.fact 1 (f := .glo "rest") rfl)
  G_need_user := He.glo_ok X G (c.t.d.fact 2 (f := .glo "need_user") rfl)
  G_need_deal := He.glo_ok X G (c.t.d.fact 3 (f := .glo "need_deal") rfl)
  G_place_of := He.glo_ok X G (c.t.d.fact 4 (f := .glo "place_of") rfl)
  G_place := He.glo_ok X G (c.t.d.fact 5 (f := .glo "place") rfl)
  G_is_name := He.glo_ok X G (c.t.d.fact 6 (f := .glo "is_name") rfl)
  G_need_name := He.glo_ok X G (c.t.d.fact 7 (f := .glo "need_name") rfl)
  G_need_many := He.glo_ok X G (c.t.d.fact 8 (f := .glo "need_many") rfl)
  G__law_cell := He.glo_ok X G (c.t.d.fact 9 (f := .glo "_law_cell") rfl)
  G__law_drawn := He.glo_ok X G (c.t.d.fact 10 (f := .glo "_law_drawn") rfl)
  G__law_roll := He.glo_ok X G (c.t.d.fact 11 (f := .glo "_law_roll") rfl)
  G__law_rounds := He.glo_ok X G (c.t.d.fact 12 (f := .glo "_law_rounds") rfl)
  G__law_word := He.glo_ok X G (c.t.d.fact 13 (f := .glo "_law_word") rfl)
  G__law_told := He.glo_ok X G (c.t.d.fact 14 (f := .glo "_law_told") rfl)
  G__law_deal := He.glo_ok X G (c.t.d.fact 15 (f := .glo "_law_deal") rfl)
  G__law_user := He.glo_ok X G (c.t.d.fact 16 (f := .glo "_law_user") rfl)
  G__law_name := He.glo_ok X G (c.t.d.fact 17 (f := .glo "_law_name") rfl)
  G__law_hall_deed := He.glo_ok X G (c.t.d.fact 18 (f := .glo "_law_hall_deed") rfl)
  G__law_hall_due := He.glo_ok X G (c.t.d.fact 19 (f := .glo "_law_hall_due") rfl)
  G__law_hall_do := He.glo_ok X G (c.t.d.fact 20 (f := .glo "_law_hall_do") rfl)
  G__law_hall_like := He.glo_ok X G (c.t.d.fact 21 (f := .glo "_law_hall_like") rfl)
  G_law := He.glo_ok X G (c.t.d.fact 22 (f := .glo "law") rfl)
  G_GateError := He.glo_ok X G (c.t.d.fact 23 (f := .glo "GateError") rfl)
  X_GateError := ⟨He.glo_ok X G (c.t.d.fact 23 (f := .glo "GateError") rfl), c.t.d.fact 24 (f := .exc "GateError") rfl⟩
  G_BadUser := He.glo_ok X G (c.t.d.fact 25 (f := .glo "BadUser") rfl)
  X_BadUser := ⟨He.glo_ok X G (c.t.d.fact 25 (f := .glo "BadUser") rfl), c.t.d.fact 26 (f := .exc "BadUser") rfl⟩
  G_BadDeal := He.glo_ok X G (c.t.d.fact 27 (f := .glo "BadDeal") rfl)
  X_BadDeal := ⟨He.glo_ok X G (c.t.d.fact 27 (f := .glo "BadDeal") rfl), c.t.d.fact 28 (f := .exc "BadDeal") rfl⟩
  G_BadCondition := He.glo_ok X G (c.t.d.fact 29 (f := .glo "BadCondition") rfl)
  X_BadCondition := ⟨He.glo_ok X G (c.t.d.fact 29 (f := .glo "BadCondition") rfl), c.t.d.fact 30 (f := .exc "BadCondition") rfl⟩
  G_BadRules := He.glo_ok X G (c.t.d.fact 31 (f := .glo "BadRules") rfl)
  X_BadRules := ⟨He.glo_ok X G (c.t.d.fact 31 (f := .glo "BadRules") rfl), c.t.d.fact 32 (f := .exc "BadRules") rfl⟩
  G_BadName := He.glo_ok X G (c.t.d.fact 33 (f := .glo "BadName") rfl)
  X_BadName := ⟨He.glo_ok X G (c.t.d.fact 33 (f := .glo "BadName") rfl), c.t.d.fact 34 (f := .exc "BadName") rfl⟩
  G_BadNumber := He.glo_ok X G (c.t.d.fact 35 (f := .glo "BadNumber") rfl)
  X_BadNumber := ⟨He.glo_ok X G (c.t.d.fact 35 (f := .glo "BadNumber") rfl), c.t.d.fact 36 (f := .exc "BadNumber") rfl⟩
  G_Known := He.glo_ok X G (c.t.d.fact 37 (f := .glo "Known") rfl)
  X_Known := ⟨He.glo_ok X G (c.t.d.fact 37 (f := .glo "Known") rfl), c.t.d.fact 38 (f := .exc "Known") rfl⟩
  G_Ring := He.glo_ok X G (c.t.d.fact 39 (f := .glo "Ring") rfl)
  X_Ring := ⟨He.glo_ok X G (c.t.d.fact 39 (f := .glo "Ring") rfl), c.t.d.fact 40 (f := .exc "Ring") rfl⟩
  G_Full := He.glo_ok X G (c.t.d.fact 41 (f := .glo "Full") rfl)
  X_Full := ⟨He.glo_ok X G (c.t.d.fact 41 (f := .glo "Full") rfl), c.t.d.fact 42 (f := .exc "Full") rfl⟩
  G_BadDay := He.glo_ok X G (c.t.d.fact 43 (f := .glo "BadDay") rfl)
  X_BadDay := ⟨He.glo_ok X G (c.t.d.fact 43 (f := .glo "BadDay") rfl), c.t.d.fact 44 (f := .exc "BadDay") rfl⟩
  G_Nothing := He.glo_ok X G (c.t.d.fact 45 (f := .glo "Nothing") rfl)
  X_Nothing := ⟨He.glo_ok X G (c.t.d.fact 45 (f := .glo "Nothing") rfl), c.t.d.fact 46 (f := .exc "Nothing") rfl⟩
  G_BadText := He.glo_ok X G (c.t.d.fact 47 (f := .glo "BadText") rfl)
  X_BadText := ⟨He.glo_ok X G (c.t.d.fact 47 (f := .glo "BadText") rfl), c.t.d.fact 48 (f := .exc "BadText") rfl⟩
  G_Needed := He.glo_ok X G (c.t.d.fact 49 (f := .glo "Needed") rfl)
  G_Hall := He.glo_ok X G (c.t.d.fact 50 (f := .glo "Hall") rfl)
  C_Hall := He.cls_ok (c.t.d.fact 51 (f := .cls "Hall") rfl)
  K_Hall := He.mkr_ok (c.t.d.fact 52 (f := .mkr "Hall") rfl)
  M_Hall___init__ := He.meth_ok (c.t.d.fact 53 (f := .meth "Hall" "__init__") rfl)
  M_Hall_free := He.meth_ok (c.t.d.fact 54 (f := .meth "Hall" "free") rfl)
  M_Hall___len__ := He.meth_ok (c.t.d.fact 55 (f := .meth "Hall" "__len__") rfl)
  M_Hall_taken := He.meth_ok (c.t.d.fact 56 (f := .meth "Hall" "taken") rfl)
  M_Hall_come := He.meth_ok (c.t.d.fact 57 (f := .meth "Hall" "come") rfl)
  M_Hall_need_switch := He.meth_ok (c.t.d.fact 58 (f := .meth "Hall" "need_switch") rfl)
  M_Hall_grow := He.meth_ok (c.t.d.fact 59 (f := .meth "Hall" "grow") rfl)
  M_Hall_held := He.meth_ok (c.t.d.fact 60 (f := .meth "Hall" "held") rfl)
  M_Hall_shrink := He.meth_ok (c.t.d.fact 61 (f := .meth "Hall" "shrink") rfl)
  M_Hall_owner := He.meth_ok (c.t.d.fact 62 (f := .meth "Hall" "owner") rfl)
  M_Hall_of := He.meth_ok (c.t.d.fact 63 (f := .meth "Hall" "of") rfl)
  M_Hall_names := He.meth_ok (c.t.d.fact 64 (f := .meth "Hall" "names") rfl)
  N_Hall_deal := He.noat_ok (c.t.d.fact 65 (f := .noat "Hall" "deal") rfl)
  N_Hall_owners := He.noat_ok (c.t.d.fact 66 (f := .noat "Hall" "owners") rfl)
  Z_ValueError := He.free_ok X G (c.t.d.fact 67 (f := .free "ValueError") rfl)
  Z_all := He.free_ok X G (c.t.d.fact 68 (f := .free "all") rfl)
  Z_bool := He.free_ok X G (c.t.d.fact 69 (f := .free "bool") rfl)
  Z_enumerate := He.free_ok X G (c.t.d.fact 70 (f := .free "enumerate") rfl)
  Z_int := He.free_ok X G (c.t.d.fact 71 (f := .free "int") rfl)
  Z_isinstance := He.free_ok X G (c.t.d.fact 72 (f := .free "isinstance") rfl)
  Z_len := He.free_ok X G (c.t.d.fact 73 (f := .free "len") rfl)
  Z_list := He.free_ok X G (c.t.d.fact 74 (f := .free "list") rfl)
  Z_max := He.free_ok X G (c.t.d.fact 75 (f := .free "max") rfl)
  Z_min := He.free_ok X G (c.t.d.fact 76 (f := .free "min") rfl)
  Z_range := He.free_ok X G (c.t.d.fact 77 (f := .free "range") rfl)
  Z_set := He.free_ok X G (c.t.d.fact 78 (f := .free "set") rfl)
  Z_sorted := He.free_ok X G (c.t.d.fact 79 (f := .free "sorted") rfl)
  Z_str := He.free_ok X G (c.t.d.fact 80 (f := .free "str") rfl)
  Z_sum := He.free_ok X G (c.t.d.fact 81 (f := .free "sum") rfl)
  Z_tuple := He.free_ok X G (c.t.d.fact 82 (f := .free "tuple") rfl)
  I_GREATEST := He.int_ok X G (c.t.d.fact 83 (f := .int "GREATEST" 1000000000000) rfl)
  I_LANDS := He.int_ok X G (c.t.d.fact 84 (f := .int "LANDS" 6) rfl)
  I_PLANS := He.int_ok X G (c.t.d.fact 85 (f := .int "PLANS" 4) rfl)
  I_PLACES := He.int_ok X G (c.t.d.fact 86 (f := .int "PLACES" 100) rfl)
  S_LETTERS := He.str_ok X G (c.t.d.fact 87 (f := .str "LETTERS" "abcdefghijklmnopqrstuvwxyz") rfl)
  F_is_number := c.t.d.def_ 1 (d := d_is_number) rfl
  F_rest := c.t.d.def_ 2 (d := d_rest) rfl
  F_need_user := c.t.d.def_ 3 (d := d_need_user) rfl
  F_need_deal := c.t.d.def_ 4 (d := d_need_deal) rfl
  F_place_of := c.t.d.def_ 5 (d := d_place_of) rfl
  F_place := c.t.d.def_ 6 (d := d_place) rfl
  F_is_name := c.t.d.def_ 7 (d := d_is_name) rfl
  F_need_name := c.t.d.def_ 8 (d := d_need_name) rfl
  F_need_many := c.t.d.def_ 9 (d := d_need_many) rfl
  F_Hall___init__ := c.t.d.def_ 10 (d := d_Hall___init__) rfl
  F_Hall_free := c.t.d.def_ 11 (d := d_Hall_free) rfl
  F_Hall___len__ := c.t.d.def_ 12 (d := d_Hall___len__) rfl
  F_Hall_taken := c.t.d.def_ 13 (d := d_Hall_taken) rfl
  F_Hall_come := c.t.d.def_ 14 (d := d_Hall_come) rfl
  F_Hall_need_switch := c.t.d.def_ 15 (d := d_Hall_need_switch) rfl
  F_Hall_grow := c.t.d.def_ 16 (d := d_Hall_grow) rfl
  F_Hall_held := c.t.d.def_ 17 (d := d_Hall_held) rfl
  F_Hall_shrink := c.t.d.def_ 18 (d := d_Hall_shrink) rfl
  F_Hall_owner := c.t.d.def_ 19 (d := d_Hall_owner) rfl
  F_Hall_of := c.t.d.def_ 20 (d := d_Hall_of) rfl
  F_Hall_names := c.t.d.def_ 21 (d := d_Hall_names) rfl
  F__law_cell := c.t.d.def_ 22 (d := d__law_cell) rfl
  F__law_drawn := c.t.d.def_ 23 (d := d__law_drawn) rfl
  F__law_roll := c.t.d.def_ 24 (d := d__law_roll) rfl
  F__law_rounds := c.t.d.def_ 25 (d := d__law_rounds) rfl
  F__law_word := c.t.d.def_ 26 (d := d__law_word) rfl
  F__law_told := c.t.d.def_ 27 (d := d__law_told) rfl
  F__law_deal := c.t.d.def_ 28 (d := d__law_deal) rfl
  F__law_user := c.t.d.def_ 29 (d := d__law_user) rfl
  F__law_name := c.t.d.def_ 30 (d := d__law_name) rfl
  F__law_hall_deed := c.t.d.def_ 31 (d := d__law_hall_deed) rfl
  F__law_hall_due := c.t.d.def_ 32 (d := d__law_hall_due) rfl
  F__law_hall_do := c.t.d.def_ 33 (d := d__law_hall_do) rfl
  F__law_hall_like := c.t.d.def_ 34 (d := d__law_hall_like) rfl
  F_law := c.t.d.def_ 35 (d := d_law) rfl
theorem lam_mem {x : Str} (h : x ∈ tfS) : (x, none) ∈ tfl := (List.mem_map (f := fun x : Str => ((x, none) : He.Defn))).mpr ⟨x, h, rfl⟩
abbrev Rw : PySem.W.OpenRow := PySem.W.OpenLaw.row PySem.Challenge.rw_rollgates_k52_whole_halls_shut_out
abbrev hkl : PySem.W.Hook := He.hookX 5 fal fnl [] tfl exl
def obl (s : PySem.W.SharedT) : He.AlX := He.obsX 5 fal fnl [] tfl exl (HandSHeadRun.getT s)
theorem obl_eq (s : PySem.W.SharedT) : obl s = hkl.obs s.abs := He.obsX_eq (HandSHeadRun.getT_eq s)
def nm0 : List Str := ["__name__", "GateError", "BadUser", "BadDeal", "BadCondition", "BadRules", "BadName", "BadNumber", "Known", "Ring", "Full", "BadDay", "Nothing", "BadText", "Needed", "GREATEST", "LANDS", "PLANS", "PLACES", "is_number", "rest", "need_user", "need_deal", "place_of", "place", "LETTERS", "is_name", "need_name", "need_many", "Hall"]
def nm1 : List Str := ["_law_cell", "_law_drawn", "_law_roll", "_law_rounds", "_law_word", "_law_told", "_law_deal", "_law_user", "_law_name", "_law_hall_deed", "_law_hall_due", "_law_hall_do", "_law_hall_like"]
def nml : List Str := nm0 ++ nm1
theorem runl (w : World) : HandSHeadRun.RunEq Rw (PySem.W.view Rw.prog [47]) hkl obl 5240 nml w := by
  intro os
  kernel_rfl
end RG
local macro_rules | `(tactic| walk_at "1") => `(tactic| first
  | with_reducible refine RG.w_seq ?_
  | with_reducible refine RG.w_set ?_
  | with_reducible refine RG.w_asg ?_
  | with_reducible refine RG.w_ret ?_
  | with_reducible refine RG.w_ifs ?_
  | with_reducible refine RG.w_drop ?_
  | with_reducible refine RG.w_next ?_
  | with_reducible refine RG.w_par ?_
  | with_reducible refine RG.w_par3 ?_
  | with_reducible refine RG.w_retN ?_
  | ((with_reducible show L2.tVar _ _ _ _); refine RG.w_var rfl ?_)
  | with_reducible refine RG.w_c ?_
  | with_reducible refine RG.w_op ?_
  | with_reducible refine RG.w_I0 ?_
  | with_reducible refine RG.w_test ?_
  | with_reducible refine RG.w_B ?_
  | with_reducible refine RG.w_and ?_
  | with_reducible refine RG.w_or ?_
  | with_reducible refine RG.w_not ?_
  | with_reducible refine RG.w_cons ?_
  | with_reducible refine RG.w_nil ?_
  | with_reducible refine RG.w_call ?_
  | with_reducible refine RG.w_cb ?_
  | with_reducible refine RG.w_chain ?_
  | with_reducible refine RG.w_andV ?_
  | with_reducible refine RG.w_orV ?_
  | with_reducible refine RG.w_notV ?_
  | with_reducible refine RG.w_if ?_
  | with_reducible refine RG.w_eqI ?_
  | with_reducible refine RG.w_neI ?_
  | with_reducible refine RG.w_eqS ?_
  | with_reducible refine RG.w_isN ?_
  | with_reducible refine RG.w_notN ?_
  | with_reducible refine RG.w_un ?_
  | with_reducible refine RG.w_U ?_
  | with_reducible refine RG.w_tup ?_
  | with_reducible refine RG.w_lst ?_
  | with_reducible refine RG.w_sl ?_
  | with_reducible refine RG.w_part ?_
  | with_reducible refine RG.w_noPart ?_
  | with_reducible refine RG.w_bm ?_
  | with_reducible refine RG.w_bm0 ?_
  | with_reducible refine RG.w_sub ?_
  | with_reducible refine RG.w_name ?_
  | with_reducible refine RG.w_max2 ?_
  | with_reducible refine RG.w_min2 ?_
  | with_reducible refine RG.w_intI ?_
  | with_reducible refine RG.w_intB ?_
  | with_reducible refine RG.w_rz ?_
  | with_reducible refine RG.w_lc ?_
  | with_reducible refine RG.w_for ?_
  | with_reducible refine RG.w_rng1 ?_
  | with_reducible refine RG.w_rng2 ?_
  | with_reducible refine RG.w_iList ?_
  | with_reducible refine RG.w_iTup ?_
  | with_reducible refine RG.w_iEnum ?_
  | with_reducible refine RG.w_iZip ?_
  | with_reducible refine RG.w_yes ?_
  | with_reducible refine RG.w_enumT ?_
  | with_reducible refine RG.w_zipA ?_
  | with_reducible refine RG.w_lrg ?_
  | with_reducible refine RG.w_rg1 ?_
  | with_reducible refine RG.w_gcons ?_
  | with_reducible refine RG.w_gnil ?_
  | with_reducible refine RG.if_t rfl ?_
  | with_reducible refine RG.if_f rfl ?_
  | (with_reducible refine ⟨_, rfl, ?_⟩)
  | (with_reducible refine ⟨_, _, rfl, ?_⟩))
local macro_rules | `(tactic| walk_at "c") => `(tactic| dsimp only [L2.wipe, List.set_cons_zero, List.set_cons_succ, List.append_nil, List.cons_append, List.nil_append, Bool.not_true, Bool.not_false])
local macro_rules | `(tactic| walk_at "0") => `(tactic| simp only [L2.start, List.map_cons, List.map_nil, List.length_cons, List.length_nil, Nat.reduceAdd, Nat.reduceSub, Nat.sub_self, List.replicate_succ, List.replicate_zero, List.cons_append, List.nil_append, List.append_nil])
local macro_rules | `(tactic| walk_at "g") => `(tactic| repeat (walk_at "1"; (try walk_at "c")))
local macro_rules | `(tactic| walk_at "s1") => `(tactic| first
  | with_reducible refine RG.w_seq ?_
  | with_reducible refine RG.w_set ?_
  | with_reducible refine RG.w_ret ?_
  | with_reducible refine RG.w_drop ?_
  | with_reducible refine RG.w_ifs ?_
  | with_reducible refine RG.w_next ?_)
local macro_rules | `(tactic| walk_at "s") => `(tactic| repeat (walk_at "s1"; (try walk_at "c")))
local macro_rules | `(tactic| walk_at "p1") => `(tactic| first
  | with_reducible refine RG.w_seq ?_
  | with_reducible refine RG.w_set ?_
  | with_reducible refine RG.w_asg ?_
  | with_reducible refine RG.w_ret ?_
  | with_reducible refine RG.w_drop ?_
  | with_reducible refine RG.w_ifs ?_
  | with_reducible refine RG.w_for ?_
  | with_reducible refine RG.w_gcons ?_
  | with_reducible refine RG.w_gnil ?_
  | with_reducible refine RG.w_name ?_
  | with_reducible refine RG.w_next ?_)
local macro_rules | `(tactic| walk_at "p") => `(tactic| (try walk_at "c") <;> repeat (walk_at "p1"; (try walk_at "c")))
local macro_rules | `(tactic| walk_at "d") => `(tactic| repeat (first
  | exact RG.evd_non
  | exact RG.evd_int
  | exact RG.evd_bl
  | exact RG.evd_str
  | exact RG.evd_neg
  | exact RG.evds_nil
  | exact RG.evd_vint rfl
  | (apply RG.evd_var rfl; assumption)
  | apply RG.evds_cons
  | apply RG.evd_tup
  | apply RG.evd_lst
  | apply RG.evl_lst
  | apply RG.evd_list
  | exact RG.len_ok rfl))
local macro_rules | `(tactic| walk_at "gd") => `(tactic| repeat (first
  | assumption
  | exact RG.gd_non
  | exact RG.gd_int
  | exact RG.gd_bool
  | exact RG.gd_str (by first | rfl | decide +kernel)
  | exact RG.gds_nil
  | refine RG.gds_cons ?_ ?_
  | refine RG.gd_tup ?_ ?_
  | refine RG.gd_list ?_ ?_
  | exact RG.len_ok rfl))
local macro_rules | `(tactic| walk_at "al") => `(tactic| ((repeat (first | exact RG.all_nil | refine RG.all_consT ?_ ⟨?_, ?_⟩)) <;> first | rfl | (walk_at "gd"; done) | skip))
local macro_rules | `(tactic| walk_at "k") => `(tactic| repeat (first
  | exact RG.evk_non
  | exact RG.evk_int
  | exact RG.evk_bl
  | exact RG.evk_str
  | exact RG.evk_neg
  | exact RG.evks_nil
  | exact RG.evk_vint rfl
  | (apply RG.evk_var rfl (by assumption); assumption)
  | apply RG.evks_cons (by assumption)
  | apply RG.evk_tup (by assumption)
  | apply RG.evk_lst (by assumption)
  | apply RG.evkl_lst
  | apply RG.evk_list (by assumption)
  | exact RG.len_ok rfl))
local macro_rules | `(tactic| walk_at "n") => `(tactic| repeat (first
  | exact RG.evn_non
  | exact RG.evn_int
  | exact RG.evn_bl
  | exact RG.evn_str
  | exact RG.evn_neg
  | exact RG.evns_nil
  | exact RG.evn_vint rfl
  | (apply RG.evn_var rfl; assumption)
  | apply RG.evns_cons
  | apply RG.evn_tup
  | apply RG.evn_lst
  | apply RG.evnl_lst
  | exact RG.len_ok rfl))
namespace RG
open PySem PySem.Spec PyProof.Rows L2
section
variable {P : Program} {w : World} {K : PySem.W.Frag} {mg : Str → Option Value} {base : Heap}
theorem places_perm {b s t : Int} (h2 : s % 2 ≠ 0) (h5 : s % 5 ≠ 0) (hs0 : 0 ≤ s) (hs1 : s ≤ 99) {i j : Nat} (hi : i < 100) (hj : j < 100) (e : ((b + (i : Int)) * s + t) % 100 = ((b + (j : Int)) * s + t) % 100) : i = j := by
  have h : (((i : Int) - j) * s) % 100 = 0 := by
    have e2 : (((b + (i : Int)) * s + t) - ((b + (j : Int)) * s + t)) % 100 = 0 := by
      rw [Int.sub_emod, e]
      simp
    have e3 : (((b + (i : Int)) * s + t) - ((b + (j : Int)) * s + t)) = ((i : Int) - j) * s := by
      rw [Int.add_mul, Int.add_mul, Int.sub_mul]
      omega
    rw [e3] at e2
    exact e2
  generalize hd : (i : Int) - j = d at h
  have d0 : -99 ≤ d ∧ d ≤ 99 := by omega
  have key : ∀ x : Fin 100, ∀ y : Fin 199, (x.val : Int) % 2 ≠ 0 → (x.val : Int) % 5 ≠ 0 → (((y.val : Int) - 99) * (x.val : Int)) % 100 = 0 → (y.val : Int) = 99 := by decide +kernel
  have k := key ⟨s.toNat, by omega⟩ ⟨(d + 99).toNat, by omega⟩
  have es : (((⟨s.toNat, by omega⟩ : Fin 100).val : Nat) : Int) = s := by
    show ((s.toNat : Nat) : Int) = s
    omega
  have ed : (((⟨(d + 99).toNat, by omega⟩ : Fin 199).val : Nat) : Int) = d + 99 := by
    show (((d + 99).toNat : Nat) : Int) = d + 99
    omega
  rw [es, ed] at k
  have k2 := k h2 h5 (by rw [show d + 99 - 99 = d by omega]; exact h)
  omega
/-- the places of a hundred numbers one behind the other -/
def row100 (b s t : Int) (n : Nat) : List Int := (List.range n).map fun (i : Nat) => ((b + (i : Int)) * s + t) % 100
theorem row100_succ (b s t : Int) (n : Nat) : row100 b s t (n + 1) = row100 b s t n ++ [((b + (n : Int)) * s + t) % 100] := by
  unfold row100
  rw [List.range_succ, List.map_append]
  rfl
theorem row100_nodup {b s t : Int} (h2 : s % 2 ≠ 0) (h5 : s % 5 ≠ 0) (hs0 : 0 ≤ s) (hs1 : s ≤ 99) : (row100 b s t 100).Nodup := by
  unfold row100
  refine List.pairwise_map.mpr (List.Pairwise.imp_of_mem ?_ List.nodup_range)
  intro i j hi hj hne e
  exact hne (places_perm h2 h5 hs0 hs1 (List.mem_range.mp hi) (List.mem_range.mp hj) e)
theorem row100_mem {b s t : Int} {x : Int} (h : x ∈ row100 b s t 100) : 0 ≤ x ∧ x < 100 := by
  unfold row100 at h
  obtain ⟨i, _, rfl⟩ := List.mem_map.mp h
  exact ⟨Int.emod_nonneg _ (by decide), Int.emod_lt_of_pos _ (by decide)⟩
def upto (n : Nat) : List Int := (List.range n).map fun (i : Nat) => (i : Int)
/-- a rising list of hundred unlike numbers below a hundred is 0 .. 99 -/
theorem sorted_is : ∀ (n : Nat) (l : List Int), l.length = n → l.Pairwise (· ≤ ·) → l.Nodup → (∀ x ∈ l, 0 ≤ x ∧ x < n) → l = upto n := by
  intro n
  induction n with
  | zero =>
    intro l h _ _ _
    cases l with
    | nil => rfl
    | cons x r => simp at h
  | succ n ih =>
    intro l hl hp hn hm
    rcases List.eq_nil_or_concat l with rfl | ⟨r, x, rfl⟩
    · simp at hl
    · simp only [List.concat_eq_append] at hl hp hn hm ⊢
      have hrl : r.length = n := by simpa using hl
      obtain ⟨p1, p2, p3⟩ := List.pairwise_append.mp hp
      obtain ⟨n1, n2, n3⟩ := List.pairwise_append.mp hn
      have hlt : ∀ y ∈ r, y < x := fun y hy => by
        have a1 : y ≤ x := p3 y hy x (by simp)
        have a2 : y ≠ x := n3 y hy x (by simp)
        omega
      have hx := hm x (by simp)
      have hr : ∀ y ∈ r, 0 ≤ y ∧ y < n := fun y hy => by
        have a1 := hm y (by simp [hy])
        have a2 := hlt y hy
        have a3 := hx.2
        omega
      have er := ih r hrl p1 n1 hr
      have hxn : x = n := by
        rcases Nat.eq_zero_or_pos n with h0 | h0
        · omega
        · have hmem : ((n - 1 : Nat) : Int) ∈ r := by
            rw [er]
            exact List.mem_map.mpr ⟨n - 1, List.mem_range.mpr (by omega), rfl⟩
          have := hlt _ hmem
          omega
      rw [er, hxn]
      unfold upto
      rw [List.range_succ, List.map_append]
      rfl
theorem row100_perm {b s t : Int} (h2 : s % 2 ≠ 0) (h5 : s % 5 ≠ 0) (hs0 : 0 ≤ s) (hs1 : s ≤ 99) : (row100 b s t 100).Perm (upto 100) := by
  have hp := List.mergeSort_perm (row100 b s t 100) (fun a b => decide (a ≤ b))
  have hs : ((row100 b s t 100).mergeSort fun a b => decide (a ≤ b)).Pairwise (· ≤ ·) := by
    have := List.pairwise_mergeSort (le := fun a b : Int => decide (a ≤ b)) (fun a b c h1 h2 => by simp at *; omega) (fun a b => by simp; omega) (row100 b s t 100)
    exact this.imp fun h => by simpa using h
  have e : ((row100 b s t 100).mergeSort fun a b => decide (a ≤ b)) = upto 100 := by
    refine sorted_is 100 _ ?_ hs (hp.nodup_iff.mpr (row100_nodup h2 h5 hs0 hs1)) fun x hx => row100_mem (hp.mem_iff.mp hx)
    rw [hp.length_eq]
    simp [row100]
  rw [← e]
  exact hp.symm
theorem upto_below : ∀ m : Fin 101, ((upto 100).filter fun x => decide (x < (m.val : Int))).length = m.val := by decide +kernel
/-- just m of a hundred places are below m -/
theorem row100_below {b s t m : Int} (h2 : s % 2 ≠ 0) (h5 : s % 5 ≠ 0) (hs0 : 0 ≤ s) (hs1 : s ≤ 99) (m0 : 0 ≤ m) (m1 : m ≤ 100) : (((row100 b s t 100).filter fun x => decide (x < m)).length : Int) = m := by
  have h := ((row100_perm (b := b) (t := t) h2 h5 hs0 hs1).filter fun x => decide (x < m)).length_eq
  have k := upto_below ⟨m.toNat, by omega⟩
  have e : (((⟨m.toNat, by omega⟩ : Fin 101).val : Nat) : Int) = m := by
    show ((m.toNat : Nat) : Int) = m
    omega
  rw [e] at k
  rw [h, k]
  exact e
/-- a whole number between -/
def isNum (d : PyData) (lo hi : Int) : Bool := match d with
  | .int i => decide (lo ≤ i) && decide (i ≤ hi)
  | _ => false
def spIsNum (K : PySem.W.Frag) : Sp := fun vs H Q _ => ∃ (v : V) (d : PyData) (lo hi : Int), vs = [v, .int lo, .int hi] ∧ Dp K H v d ∧ Q (.bl (isNum d lo hi)) H
def spRest : Sp := fun vs H Q _ => ∃ (n m : Int), vs = [.int n, .int m] ∧ 0 < m ∧ m < 1073741824 ∧ Q (.int (n % m)) H
theorem rest_eq (n m : Int) : n - n / m * m = n % m := by
  rw [Int.emod_def, Int.mul_comm m]
theorem divW {i j : Int} (h : 0 < j) (h2 : j < 18446744073709551616) : CDivW i j := wide_div (b := 64) h (by omega) (by decide) (by decide)
def isUser (d : PyData) : Bool := match d with
  | .tuple [a, b, c] => isNum a 0 1000000000000 && (isNum b 0 5 && isNum c 0 3)
  | _ => false
def spNeedUser (K : PySem.W.Frag) : Sp := fun vs H Q E => ∃ (v : V) (d : PyData), vs = [v] ∧ Dp K H v d ∧ (isUser d = true → Q .non H) ∧ (isUser d = false → E (.ref (He.ga K "BadUser")) none H)
theorem isUser_len {ds : List PyData} (h : ds.length ≠ 3) : isUser (.tuple ds) = false := by
  match ds, h with
  | [], _ => rfl
  | [_], _ => rfl
  | [_, _], _ => rfl
  | [_, _, _], h => exact absurd rfl h
  | _ :: _ :: _ :: _ :: _, _ => rfl
def isDeal (d : PyData) : Bool := match d with
  | .tuple [.int a, .int b] => (decide (0 ≤ a) && decide (a ≤ 99)) && ((decide (0 ≤ b) && decide (b ≤ 99)) && (!decide (a % 2 = 0) && !decide (a % 5 = 0)))
  | _ => false
def spNeedDeal (K : PySem.W.Frag) : Sp := fun vs H Q E => ∃ (v : V) (d : PyData), vs = [v] ∧ Dp K H v d ∧ (isDeal d = true → Q .non H) ∧ (isDeal d = false → E (.ref (He.ga K "BadDeal")) none H)
theorem isDeal_len {ds : List PyData} (h : ds.length ≠ 2) : isDeal (.tuple ds) = false := by
  unfold isDeal
  split
  · rename_i e
    cases e
    exact absurd rfl h
  · rfl
theorem isDeal_a {a b : PyData} (h : isNum a 0 99 = false) : isDeal (.tuple [a, b]) = false := by
  unfold isDeal
  split
  · rename_i e
    cases e
    simp only [isNum] at h
    simp only [h, Bool.false_and]
  · rfl
theorem isDeal_b {a b : PyData} (h : isNum b 0 99 = false) : isDeal (.tuple [a, b]) = false := by
  unfold isDeal
  split
  · rename_i e
    cases e
    simp only [isNum] at h
    simp only [h, Bool.false_and, Bool.and_false]
  · rfl
theorem isNum_int {d : PyData} {lo hi : Int} (h : isNum d lo hi = true) : ∃ i, d = .int i ∧ lo ≤ i ∧ i ≤ hi := by
  unfold isNum at h
  split at h
  · rename_i i
    simp at h
    exact ⟨i, rfl, h.1, h.2⟩
  · cases h
def spPlaceOf (K : PySem.W.Frag) : Sp := fun vs H Q _ => ∃ (n : Int) (v : V) (s t : Int), vs = [.int n, v] ∧ Dp K H v (.tuple [.int s, .int t]) ∧ 0 ≤ s ∧ s ≤ 99 ∧ Q (.int ((n * s + t) % 100)) H
def placeD : PyData → PyData → Int
  | .tuple (.int n :: _), .tuple [.int s, .int t] => (n * s + t) % 100
  | _, _ => 0
def spPlace (K : PySem.W.Frag) : Sp := fun vs H Q E => ∃ (u v : V) (d e : PyData), vs = [u, v] ∧ Dp K H u d ∧ Dp K H v e ∧ (isUser d = true → isDeal e = true → Q (.int (placeD d e)) H) ∧
  (isUser d = false → E (.ref (He.ga K "BadUser")) none H) ∧ (isUser d = true → isDeal e = false → E (.ref (He.ga K "BadDeal")) none H)
theorem isUser_is {d : PyData} (h : isUser d = true) : ∃ n l p : Int, d = .tuple [.int n, .int l, .int p] ∧ 0 ≤ n ∧ n ≤ 1000000000000 ∧ 0 ≤ l ∧ l ≤ 5 ∧ 0 ≤ p ∧ p ≤ 3 := by
  unfold isUser at h
  split at h
  · simp only [Bool.and_eq_true] at h
    obtain ⟨n, rfl, a, b⟩ := isNum_int h.1
    obtain ⟨l, rfl, c, d⟩ := isNum_int h.2.1
    obtain ⟨p, rfl, e, f⟩ := isNum_int h.2.2
    exact ⟨n, l, p, rfl, a, b, c, d, e, f⟩
  · cases h
theorem isDeal_is {d : PyData} (h : isDeal d = true) : ∃ s t : Int, d = .tuple [.int s, .int t] ∧ 0 ≤ s ∧ s ≤ 99 ∧ 0 ≤ t ∧ t ≤ 99 ∧ s % 2 ≠ 0 ∧ s % 5 ≠ 0 := by
  unfold isDeal at h
  split at h
  · rename_i s t
    simp at h
    exact ⟨s, t, rfl, by omega, by omega, by omega, by omega, by omega, by omega⟩
  · cases h
/-- the cell of a script: some int -/
def spCell (K : PySem.W.Frag) : Sp := fun vs H Q _ => ∃ (a : Addr) (k : Int) (ns : List Int), vs = [.ref a, .int k] ∧ SqL K H a (ns.map V.int) ∧ ns.length ≤ 100 ∧ 0 ≤ k ∧ k < 1000 ∧ ∀ z H', Same H H' → Q (.int z) H'
theorem shapedAll_ints : ∀ ns : List Int, PyData.canLayAll0 (ns.map PyData.int) = true
  | [] => rfl
  | n :: ns => by
    simp only [List.map_cons, PyData.canLayAll0, PyData.canLay0, shapedAll_ints ns, Bool.and_self]
theorem depthAll_ints : ∀ ns : List Int, PyData.depthAll (ns.map PyData.int) ≤ 1
  | [] => by simp [PyData.depthAll]
  | n :: ns => by
    have h := depthAll_ints ns
    simp only [List.map_cons, PyData.depthAll, PyData.depth]
    omega
theorem shaped_ints (ns : List Int) : SeqAt.shaped (.list (ns.map PyData.int)) = true := by
  have h1 := shapedAll_ints ns
  have h2 := depthAll_ints ns
  have h3 : PyData.depth (.list (ns.map PyData.int)) ≤ 64 := by
    simp only [PyData.depth]
    omega
  simp only [SeqAt.shaped, PyData.canLay0, h1, decide_eq_true h3, Bool.and_self]
theorem dp_ints {K : PySem.W.Frag} {H : Hp} {a : Addr} {ns : List Int} (h : SqL K H a (ns.map V.int)) : Dp K H (.ref a) (.list (ns.map PyData.int)) := .lst h (dpAll_ints ns)
theorem atI_ints {ns : List Int} {j : Int} (h0 : 0 ≤ j) (h1 : j < ns.length) : ∃ z, atI (ns.map V.int) j = some (.int z) := by
  have hj : j.toNat < ns.length := by omega
  refine ⟨ns[j.toNat], at_of (j := j.toNat) (by omega) ?_⟩
  rw [List.getElem?_map, List.getElem?_eq_getElem hj]
  rfl
def spDrawn : Sp := fun vs H Q _ => ∃ (c k : Int), vs = [.int c, .int k] ∧ ∀ z, 0 ≤ z → Q (.int z) H
theorem mulW {i j : Int} (a : 0 ≤ i) (b : i < 2 ^ 200) (c : 0 ≤ j) (d : j < 2 ^ 200) : CMulW i j := by
  refine wide_mul (a := 200) (b := 200) ?_ ?_ (by decide) (by decide) (by decide)
  · have e : ((2 : Int) ^ 200) = ((2 ^ 200 : Nat) : Int) := by norm_cast
    omega
  · have e : ((2 : Int) ^ 200) = ((2 ^ 200 : Nat) : Int) := by norm_cast
    omega
/-- some number below many; all but the dice stays -/
def spRoll : Sp := fun vs H Q _ => ∃ (a : Addr) (m : Int), vs = [.ref a, .int m] ∧ Dice H a ∧ 0 < m ∧ m < 18446744073709551616 ∧ ∀ r H', 0 ≤ r → r < m → But a H H' → Q (.int r) H'
theorem But.put {a : Addr} {H : Hp} {x k : Int} (d : Dice H a) : But a H (upd H a (.lst [.int x, .int k])) := ⟨d, ⟨x, k, upd_same⟩, fun b o e n => by
  rw [upd_ne n]
  exact e⟩
/-- some dice, each a new list -/
def spRounds (K : PySem.W.Frag) : Sp := fun vs H Q _ => ∃ (a : Addr) (m : Int) (ns : List Int), vs = [.ref a, .int m] ∧ SqL K H a (ns.map V.int) ∧ ns.length ≤ 100 ∧ 1 ≤ m ∧ m ≤ 10 ∧
  ∀ (L : Addr) (ds : List Addr) (H' : Hp), Same H H' → H' L = some (.lst (ds.map V.ref)) → (∀ d ∈ ds, H d = none ∧ d ≠ L ∧ Dice H' d) → H L = none → Q (.ref L) H'
/-- the loop over the rounds: each turn from some dice on; it changes nothing that stood but the dice, and goes on -/
theorem rounds_go {K : PySem.W.Frag} {a L : Addr} {ds : List Addr} {tb : TS} {D : Ends} {H : Hp} {n : Nat} {w0 : List (Option V)} (hw : w0.length = n) (hL : H L = some (.lst (ds.map V.ref))) (hds : ∀ d ∈ ds, d ≠ L ∧ Dice H d) (hd : ∀ σ' H', D.nx σ' H')
    (hbody : ∀ (w : List (Option V)) (H' : Hp) (d : Addr) (N : L2.St → Hp → Prop), w.length = n → Dice H' d → (∀ (w2 : List (Option V)) (H2 : Hp), w2.length = n → But d H' H2 → N (some (.ref a) :: w2) H2) →
      tb { D with nx := N, ct := N, bk := D.nx } ((some (.ref a) :: w).set 1 (some (.ref d))) H') :
    ForGoal (Itl K L) (gName 1) tb D (some (.ref a) :: w0) H := by
  refine for_go (walk_list (K := K) (a := L) (xs := ds.map V.ref)) (fun i σ H' => (∃ w : List (Option V), w.length = n ∧ σ = some (.ref a) :: w) ∧ H' L = some (.lst (ds.map V.ref)) ∧ ∀ d ∈ ds, Dice H' d) ⟨⟨w0, hw, rfl⟩, hL, fun d h => (hds d h).2⟩ (fun i σ H' _ h => lstOf h.2.1) ?_ (fun σ H' _ => hd σ H')
  rintro i x σ H' H'' hi ⟨⟨w, hw', rfl⟩, hL', hds'⟩ ⟨rfl, hx⟩
  rw [List.getElem?_map] at hx
  obtain ⟨d, hd1, rfl⟩ := Option.map_eq_some_iff.mp hx
  have hm := List.mem_of_getElem? hd1
  refine hbody w H'' d _ hw' (hds' d hm) fun w2 H2 hw2 b => ⟨⟨w2, hw2, rfl⟩, b.kp L _ hL' ((hds d hm).1).symm, fun e he => ?_⟩
  by_cases hed : e = d
  · subst hed
    exact b.d1
  · obtain ⟨x, k, hx⟩ := hds' e he
    exact ⟨x, k, b.kp e _ hx hed⟩
def spLaw (K : PySem.W.Frag) : Sp := fun vs H Q _ => ∃ (a : Addr) (ns : List Int), vs = [.ref a] ∧ SqL K H a (ns.map V.int) ∧ ns.length ≤ 63 ∧ ∀ H', Q (.bl true) H'
/-- some deal -/
def spDeal (K : PySem.W.Frag) : Sp := fun vs H Q _ => ∃ a : Addr, vs = [.ref a] ∧ Dice H a ∧ ∀ (p : Addr) (s t : Int) (H' : Hp), But a H H' → H p = none → H' p = some (.tup [.int s, .int t]) → isDeal (.tuple [.int s, .int t]) = true → Q (.ref p) H'
theorem atI_four {r a b c d : Int} (h0 : 0 ≤ r) (h1 : r < 4) : ∃ z, atI [V.int a, V.int b, V.int c, V.int d] r = some (.int z) ∧ (z = a ∨ z = b ∨ z = c ∨ z = d) := by
  have h : r = 0 ∨ r = 1 ∨ r = 2 ∨ r = 3 := by omega
  rcases h with rfl | rfl | rfl | rfl
  · exact ⟨a, rfl, .inl rfl⟩
  · exact ⟨b, rfl, .inr (.inl rfl)⟩
  · exact ⟨c, rfl, .inr (.inr (.inl rfl))⟩
  · exact ⟨d, rfl, .inr (.inr (.inr rfl))⟩
theorem isDeal_mk {s t : Int} (h0 : 0 ≤ s) (h1 : s ≤ 99) (h2 : 0 ≤ t) (h3 : t ≤ 99) (h4 : s % 2 ≠ 0) (h5 : s % 5 ≠ 0) : isDeal (.tuple [.int s, .int t]) = true := by
  simp [isDeal, h0, h1, h2, h3, h4, h5]
/-- some user -/
def spUser (K : PySem.W.Frag) : Sp := fun vs H Q _ => ∃ a : Addr, vs = [.ref a] ∧ Dice H a ∧ ∀ (p : Addr) (n l m : Int) (H' : Hp), But a H H' → H p = none → H' p = some (.tup [.int n, .int l, .int m]) → 0 ≤ n → n ≤ 1000000000000 → 0 ≤ l → l ≤ 5 → 0 ≤ m → m ≤ 3 → Q (.ref p) H'
theorem isUser_mk {n l m : Int} (h0 : 0 ≤ n) (h1 : n ≤ 1000000000000) (h2 : 0 ≤ l) (h3 : l ≤ 5) (h4 : 0 ≤ m) (h5 : m ≤ 3) : isUser (.tuple [.int n, .int l, .int m]) = true := by
  simp [isUser, isNum, h0, h1, h2, h3, h4, h5]
/-- a name: 1 to 8 small letters -/
def lettersL : List Nat := ("abcdefghijklmnopqrstuvwxyz" : Str).cps.toList
def isName : PyData → Bool
  | .str z => decide (1 ≤ z.length) && decide (z.length ≤ 8) && z.cps.toList.all fun c => decide (c ∈ lettersL)
  | _ => false
/-- a text of a fit length, or no text -/
def fitS : PyData → Prop
  | .str z => z.length ≤ 100000
  | _ => True
def spIsName (K : PySem.W.Frag) : Sp := fun vs H Q _ => ∃ (v : V) (d : PyData), vs = [v] ∧ Dp K H v d ∧ fitS d ∧ ∀ H', Same H H' → Q (.bl (isName d)) H'
theorem isName_no {d : PyData} (h : isStrD d = false) : isName d = false := by
  cases d <;> first | rfl | cases h
theorem isName_str {d : PyData} (h : isName d = true) : ∃ z, d = .str z := by
  cases d <;> first | exact ⟨_, rfl⟩ | cases h
/-- the order of texts -/
def leS (x y : Str) : Prop := x.cps.toList ≤ y.cps.toList
theorem leS_of {x y : Str} (h : ltCps y.cps.toList x.cps.toList = false) : leS x y := by
  rw [ltCps_eq] at h
  exact of_decide_eq_false h
theorem leS_trans {x y z : Str} (a : leS x y) (b : leS y z) : leS x z := List.le_trans a b
theorem leS_anti {x y : Str} (a : leS x y) (b : leS y x) : x = y := by
  have e := List.le_antisymm a b
  cases x
  cases y
  congr 1
  exact Array.toList_inj.mp e
theorem rising_pw : ∀ (p : Str) (l : List Str), risingS p l = true → (p :: l).Pairwise leS
  | p, [], _ => by simp
  | p, x :: r, h => by
    simp only [risingS, Bool.and_eq_true, Bool.not_eq_true'] at h
    have ih := rising_pw x r h.2
    have h1 := leS_of h.1
    rw [List.pairwise_cons]
    refine ⟨fun y hy => ?_, ih⟩
    rcases List.mem_cons.mp hy with rfl | hy
    · exact h1
    · exact leS_trans h1 ((List.pairwise_cons.mp ih).1 y hy)
theorem sorted_pw {l : List Str} (h : sortedS l = true) : l.Pairwise leS := by
  cases l with
  | nil => exact .nil
  | cons x r => exact rising_pw x r h
theorem pw_uniq : ∀ {a b : List Str}, a.Pairwise leS → b.Pairwise leS → a.Nodup → b.Nodup → (∀ z, z ∈ a ↔ z ∈ b) → a = b
  | [], [], _, _, _, _, _ => rfl
  | [], y :: b, _, _, _, _, h => absurd ((h y).mpr (by simp)) (by simp)
  | x :: a, [], _, _, _, _, h => absurd ((h x).mp (by simp)) (by simp)
  | x :: a, y :: b, ha, hb, na, nb, h => by
    rw [List.pairwise_cons] at ha hb
    rw [List.nodup_cons] at na nb
    have e : x = y := by
      rcases List.mem_cons.mp ((h x).mp (by simp)) with e | hx
      · exact e
      · rcases List.mem_cons.mp ((h y).mpr (by simp)) with e | hy
        · exact e.symm
        · exact leS_anti (ha.1 y hy) (hb.1 x hx)
    subst e
    rw [pw_uniq ha.2 hb.2 na.2 nb.2 fun z => ?_]
    constructor
    · intro hz
      rcases List.mem_cons.mp ((h z).mp (by simp [hz])) with e | hz'
      · subst e
        exact absurd hz na.1
      · exact hz'
    · intro hz
      rcases List.mem_cons.mp ((h z).mpr (by simp [hz])) with e | hz'
      · subst e
        exact absurd hz nb.1
      · exact hz'
theorem sorted_uniq {a b : List Str} (ha : sortedS a = true) (hb : sortedS b = true) (na : a.Nodup) (nb : b.Nodup) (h : ∀ z, z ∈ a ↔ z ∈ b) : a = b := pw_uniq (sorted_pw ha) (sorted_pw hb) na nb h
def spNeedName (K : PySem.W.Frag) : Sp := fun vs H Q E => ∃ (v : V) (d : PyData), vs = [v] ∧ Dp K H v d ∧ fitS d ∧ (isName d = true → ∀ H', Same H H' → Q .non H') ∧ (isName d = false → ∀ H', Same H H' → E (.ref (He.ga K "BadName")) none H')
def spNeedMany (K : PySem.W.Frag) : Sp := fun vs H Q E => ∃ (v : V) (d : PyData) (lo hi : Int), vs = [v, .int lo, .int hi] ∧ Dp K H v d ∧ (isNum d lo hi = true → Q .non H) ∧ (isNum d lo hi = false → E (.ref (He.ga K "BadNumber")) none H)
/-- a new hall: a deal, a hundred places that nobody holds -/
def spHallInit (K : PySem.W.Frag) : Sp := fun vs H Q E => ∃ (x dx : Addr) (v : V) (d : PyData), vs = [.ref x, v] ∧ H x = some (.ins (He.ga K "Hall") dx []) ∧ Dp K H v d ∧
  (isDeal d = true → ∀ (L : Addr) (H2 : Hp), H L = none → (∀ b o, H b = some o → b ≠ x → H2 b = some o) → H2 x = some (.ins (He.ga K "Hall") dx [("deal", v), ("owners", .ref L)]) → H2 L = some (.lst (List.replicate 100 .non)) → Q .non H2) ∧
  (isDeal d = false → E (.ref (He.ga K "BadDeal")) none H)
theorem dps_non {K : PySem.W.Frag} {H : Hp} : ∀ {n : Nat} {vs : List V}, DpAll K H vs (List.replicate n [PyData.none]).flatten → vs = List.replicate n .non
  | 0, _, .nil => rfl
  | n + 1, _, .cons a b => by
    cases a
    rw [dps_non b]
    rfl
/-- who holds a place -/
def nmV : Option Str → V
  | none => .non
  | some z => .str z
def nmD : Option Str → PyData
  | none => .none
  | some z => .str z
/-- the places at which o stands -/
def idxL (os : List (Option Str)) (o : Option Str) : List Nat := (List.range os.length).filter fun i => decide (os.getD i none = o)
def natsV (is : List Nat) : List V := is.map fun i => V.int (i : Nat)
/-- a hall at h: its owners at L, its deal -/
structure HallAt (K : PySem.W.Frag) (H : Hp) (h L : Addr) (d : PyData) (os : List (Option Str)) : Prop where
  obj : ∃ dx v, H h = some (.ins (He.ga K "Hall") dx [("deal", v), ("owners", .ref L)]) ∧ Dp K H v d
  own : H L = some (.lst (os.map nmV))
  len : os.length = 100
  deal : isDeal d = true
theorem isDeal_imm {d : PyData} (h : isDeal d = true) : imm d = true := by
  obtain ⟨s, t, rfl, _⟩ := isDeal_is h
  rfl
section
variable {K : PySem.W.Frag} {H H2 : Hp} {h L : Addr} {d : PyData} {os os' : List (Option Str)}
theorem HallAt.kpb {A : Addr → Prop} (x : HallAt K H h L d os) (k : KpB A H H2) (l : LsA A H) (n : ¬ A L) : HallAt K H2 h L d os := by
  obtain ⟨dx, v, h1, h2⟩ := x.obj
  refine ⟨⟨dx, v, k _ _ h1 (fun z => ?_) (fun ps z => by cases z), dp_tups (fun b xs s => kpb_sqT k l s) (isDeal_imm x.deal) h2⟩, k _ _ x.own n (fun ps z => by cases z), x.len, x.deal⟩
  obtain ⟨xs, e⟩ := l h z
  rw [h1] at e
  cases e
theorem HallAt.s (x : HallAt K H h L d os) (s : Same H H2) : HallAt K H2 h L d os := x.kpb (A := fun _ => False) (kpb_same s) (fun _ z => z.elim) (fun z => z)
theorem HallAt.put (x : HallAt K H h L d os) (o : Oth L H H2) (e : H2 L = some (.lst (os'.map nmV))) (hl : os'.length = 100) : HallAt K H2 h L d os' := by
  obtain ⟨dx, v, h1, h2⟩ := x.obj
  refine ⟨⟨dx, v, o _ _ h1 (ne_of h1 x.own (by intro z; cases z)), dp_tups (fun b xs s => kpb_sqT o.kpb (lsa_one x.own) s) (isDeal_imm x.deal) h2⟩, e, hl, x.deal⟩
theorem HallAt.ne (x : HallAt K H h L d os) : h ≠ L := by
  obtain ⟨dx, v, h1, h2⟩ := x.obj
  exact ne_of h1 x.own (by intro z; cases z)
end
theorem nm_none (o : Option Str) : decide (nmV o = V.non) = decide (o = none) := by
  cases o <;> simp [nmV]
theorem nm_some (o : Option Str) (z : Str) : decide (nmV o = V.str z) = decide (o = some z) := by
  cases o <;> simp [nmV]
theorem nm_scal (o : Option Str) (z : Str) : scal (nmV o) (.str z) = true := by
  cases o <;> rfl
theorem nm_flat (os : List (Option Str)) : (os.map nmV).all flatV = true := by
  rw [List.all_map, List.all_eq_true]
  intro o _
  cases o <;> rfl
theorem nm_in (os : List (Option Str)) (z : Str) : inV (.str z) (os.map nmV) = decide (some z ∈ os) := by
  apply Bool.eq_iff_iff.mpr
  simp only [inV, List.any_map, List.any_eq_true, decide_eq_true_eq, Function.comp]
  constructor
  · rintro ⟨o, ho, e⟩
    cases o with
    | none => cases e
    | some y =>
      have e : (y == z) = true := e
      rw [← eq_of_beq e]
      exact ho
  · intro h
    exact ⟨some z, h, beq_self_eq_true z⟩
/-- the walk of the owners with their places -/
theorem lc_idx {K : PySem.W.Frag} {σ : L2.St} {H : Hp} {L : Addr} {os : List (Option Str)} {g : TG} {tt : TT} {te : TE} {vs : List Nat} {o : Option Str} {Q : VK} (hL : H L = some (.lst (os.map nmV))) (hlen : os.length ≤ 1000)
    (hs : ∀ (i : Nat) (T : Addr) (x : Option Str) (H' : Hp) (Qb : Bool → L2.St → Hp → Prop), Same H H' → H' T = some (.tup [.int (i : Nat), nmV x]) → (∀ σ2 : L2.St, (∀ Qv : VK, Qv (.int (i : Nat)) H' → te σ2 H' Qv) → Qb (decide (x = o)) σ2 H') → g (.ref T) (wipe σ vs) H' fun σ2 H2 => wipe σ2 vs = wipe σ vs ∧ tt σ2 H2 fun b H3 => Qb b σ2 H3)
    (q : ∀ D H', H D = none → Same H H' → H' D = some (.lst (natsV (idxL os o))) → Q (.ref D) H') : LcGoal (Ite K L) g tt te vs σ H Q := by
  refine lc_pure (walk_enum (K := K) (a := L) (xs := os.map nmV)) (by rw [List.length_map]; omega) ((List.range os.length).map fun i => if decide (os.getD i none = o) = true then [V.int (i : Nat)] else []) (by simp) (fun H' s => lstOf (s _ _ hL)) ?_ ?_
  · rintro D i acc x H' H'' hD hi hacc hH' iv ⟨T, u1, u2, rfl, nT, rfl, e1, e2⟩
    cases e1
    rw [List.length_map] at hi
    have e2 : (os.map nmV)[i]? = some u2 := e2
    rw [List.getElem?_map, List.getElem?_eq_getElem hi] at e2
    cases e2
    have sT : Same H' (upd H' T (.tup [.int (i : Nat), nmV os[i]])) := Same.new nT
    refine hs i T os[i] _ (fun b σ2 H3 => if b = true then te σ2 H3 fun y H4 => LcNx (IvP H _ D) D i y H4 else LcSk (IvP H _ D) D i H3) (iv.1.trans sT) upd_same fun σ2 ht => ?_
    have hg : os.getD i none = os[i] := by rw [List.getD_eq_getElem?_getD, List.getElem?_eq_getElem hi]; rfl
    refine if_b (fun hb => ?_) (fun hb => ?_)
    · refine ht _ (lcp_nx hD (by omega) hacc hH' iv sT ?_)
      rw [List.getElem?_map, List.getElem?_range hi]
      simp only [Option.map_some, hg, hb]
      rfl
    · refine lcp_sk hacc hH' iv sT ?_
      rw [List.getElem?_map, List.getElem?_range hi]
      simp only [Option.map_some, hg, hb]
      rfl
  · intro D H' hD s hD'
    rw [flat_if (fun i : Nat => decide (os.getD i none = o)) (fun i : Nat => V.int (i : Nat))] at hD'
    exact q D H' hD s hD'
def spHallFree (K : PySem.W.Frag) : Sp := fun vs H Q _ => ∃ (h L : Addr) (dl : PyData) (os : List (Option Str)), vs = [.ref h] ∧ HallAt K H h L dl os ∧ ∀ F H', H F = none → Same H H' → H' F = some (.lst (natsV (idxL os none))) → Q (.ref F) H'
theorem os_map (os : List (Option Str)) : os = (List.range os.length).map fun i => os.getD i none := by
  apply List.ext_getElem
  · simp
  · intro i h1 h2
    rw [List.getElem_map, List.getElem_range, List.getD_eq_getElem?_getD, List.getElem?_eq_getElem h1]
    rfl
theorem idxL_len (os : List (Option Str)) (o : Option Str) : (idxL os o).length = os.countP fun x => decide (x = o) := by
  unfold idxL
  rw [← List.countP_eq_length_filter]
  conv => rhs; rw [os_map os, List.countP_map]
  rfl
theorem idxL_lt {os : List (Option Str)} {o : Option Str} {i : Nat} (h : i ∈ idxL os o) : i < os.length := List.mem_range.mp (List.mem_filter.mp h).1
theorem idxL_at {os : List (Option Str)} {o : Option Str} {i : Nat} (h : i ∈ idxL os o) : os.getD i none = o := of_decide_eq_true (List.mem_filter.mp h).2
theorem idxL_mem {os : List (Option Str)} {o : Option Str} {i : Nat} (h : i < os.length) (e : os.getD i none = o) : i ∈ idxL os o := List.mem_filter.mpr ⟨List.mem_range.mpr h, decide_eq_true e⟩
theorem idxL_le (os : List (Option Str)) (o : Option Str) : (idxL os o).length ≤ os.length := by
  unfold idxL
  exact Nat.le_trans (List.length_filter_le _ _) (by simp)
def spHallLen (K : PySem.W.Frag) : Sp := fun vs H Q _ => ∃ (h L : Addr) (dl : PyData) (os : List (Option Str)), vs = [.ref h] ∧ HallAt K H h L dl os ∧ ∀ H', Same H H' → Q (.int ((idxL os none).length : Nat)) H'
/-- some places become another's -/
def setAll (os : List (Option Str)) (is : List Nat) (o : Option Str) : List (Option Str) := is.foldl (fun a i => a.set i o) os
theorem setAll_len (o : Option Str) : ∀ (is : List Nat) (os : List (Option Str)), (setAll os is o).length = os.length
  | [], _ => rfl
  | i :: is, os => by
    show (setAll (os.set i o) is o).length = _
    rw [setAll_len o is, List.length_set]
theorem setAll_snoc (os : List (Option Str)) (is : List Nat) (i : Nat) (o : Option Str) : setAll os (is ++ [i]) o = (setAll os is o).set i o := by
  unfold setAll
  rw [List.foldl_append]
  rfl
theorem nm_set (os : List (Option Str)) (i : Nat) (o : Option Str) : (os.map nmV).set i (nmV o) = (os.set i o).map nmV := by
  rw [List.map_set]
/-- what comes of taking places -/
structure TakeQ (K : PySem.W.Frag) (L : Addr) (os : List (Option Str)) (z : Str) (d : PyData) (H : Hp) (Q : VK) (E : XK) : Prop where
  bad : isNum d 1 100 = false → ∀ H', Same H H' → E (.ref (He.ga K "BadNumber")) none H'
  full : ∀ n : Nat, d = .int (n : Nat) → 1 ≤ n → n ≤ 100 → (idxL os none).length < n → ∀ H', Same H H' → E (.ref (He.ga K "Full")) none H'
  good : ∀ n : Nat, d = .int (n : Nat) → 1 ≤ n → n ≤ 100 → n ≤ (idxL os none).length → ∀ F H', H F = none → Oth L H H' → H' L = some (.lst ((setAll os ((idxL os none).take n) (some z)).map nmV)) → H' F = some (.lst (natsV ((idxL os none).take n))) → Q (.ref F) H'
theorem TakeQ.s {K : PySem.W.Frag} {L : Addr} {os : List (Option Str)} {z : Str} {d : PyData} {H H1 : Hp} {Q : VK} {E : XK} (t : TakeQ K L os z d H Q E) (s : Same H H1) : TakeQ K L os z d H1 Q E :=
  ⟨fun h H' s' => t.bad h H' (s.trans s'), fun n a b c e H' s' => t.full n a b c e H' (s.trans s'), fun n a b c e F H' nF o h1 h2 => t.good n a b c e F H' (s.free nF) ((oth_of s).trans o) h1 h2⟩
/-- the loop that gives the places another owner -/
theorem for_own {K : PySem.W.Frag} {H : Hp} {h L F : Addr} {dl : PyData} {os : List (Option Str)} {is : List Nat} {o : Option Str} {g : TG} {tb : TS} {D : Ends} {σ : L2.St} (A : L2.St → Prop) (hA : HallAt K H h L dl os) (hF : H F = some (.lst (natsV is))) (hFL : F ≠ L) (h0 : A σ) (hi : ∀ i ∈ is, i < os.length)
    (hs : ∀ (j i : Nat) (σ : L2.St) (H' : Hp) (xs : List (Option Str)) (N : L2.St → Hp → Prop), A σ → HallAt K H' h L dl xs → xs.length = os.length → i < xs.length → (∀ σ2 H2, A σ2 → Oth L H' H2 → H2 L = some (.lst ((xs.set i o).map nmV)) → N σ2 H2) → g (.int (i : Nat)) σ H' fun σ2 H2 => tb { D with nx := N, ct := N, bk := D.nx } σ2 H2)
    (hd : ∀ σ H', A σ → Oth L H H' → H' L = some (.lst ((setAll os is o).map nmV)) → H' F = some (.lst (natsV is)) → D.nx σ H') : ForGoal (Itl K F) g tb D σ H := by
  have hlen := hA.len
  refine for_go (walk_list (K := K) (a := F) (xs := natsV is)) (fun j σ H' => A σ ∧ Oth L H H' ∧ HallAt K H' h L dl (setAll os (is.take j) o) ∧ H' F = some (.lst (natsV is))) ⟨h0, Oth.refl, hA, hF⟩ (fun _ _ H' _ x => lstOf x.2.2.2) ?_ (fun σ H' x => ?_)
  · rintro j x σ H' H'' hj ⟨a, ot, hl, hf⟩ ⟨rfl, hx⟩
    unfold natsV at hx
    rw [List.getElem?_map] at hx
    obtain ⟨i, hij, rfl⟩ := Option.map_eq_some_iff.mp hx
    have hil : i < (setAll os (is.take j) o).length := by rw [setAll_len]; exact hi i (List.mem_of_getElem? hij)
    refine hs j i σ H'' _ _ a hl (setAll_len o _ _) hil fun σ2 H2 a2 o2 e2 => ⟨a2, ot.trans o2, ?_, o2 _ _ hf hFL⟩
    have e : setAll os (is.take (j + 1)) o = (setAll os (is.take j) o).set i o := by
      rw [List.take_add_one, hij]
      exact setAll_snoc _ _ _ _
    rw [e]
    exact hl.put o2 e2 (by rw [List.length_set]; exact hl.len)
  · obtain ⟨a, ot, hl, hf⟩ := x
    have e : is.take (natsV is).length = is := List.take_of_length_le (by unfold natsV; simp)
    rw [e] at hl
    exact hd σ H' a ot hl.own hf
def spHallTaken (K : PySem.W.Frag) : Sp := fun vs H Q E => ∃ (h L : Addr) (dl : PyData) (os : List (Option Str)) (z : Str) (v : V) (d : PyData), vs = [.ref h, .str z, v] ∧ HallAt K H h L dl os ∧ Dp K H v d ∧ TakeQ K L os z d H Q E
theorem isNum_nat {d : PyData} {hi : Int} (h : isNum d 1 hi = true) : ∃ n : Nat, d = .int (n : Nat) ∧ 1 ≤ n ∧ (n : Int) ≤ hi := by
  obtain ⟨i, rfl, h1, h2⟩ := isNum_int h
  obtain ⟨n, rfl⟩ := Int.eq_ofNat_of_zero_le (show 0 ≤ i by omega)
  exact ⟨n, rfl, by omega, h2⟩
theorem natsV_take (is : List Nat) (n : Nat) : (natsV is).take n = natsV (is.take n) := by
  unfold natsV
  rw [List.map_take]
theorem natsV_drop (is : List Nat) (n : Nat) : (natsV is).drop n = natsV (is.drop n) := by
  unfold natsV
  rw [List.map_drop]
def spHallCome (K : PySem.W.Frag) : Sp := fun vs H Q E => ∃ (h L : Addr) (dl : PyData) (os : List (Option Str)) (vn : V) (dn : PyData) (v : V) (d : PyData), vs = [.ref h, vn, v] ∧ HallAt K H h L dl os ∧ Dp K H vn dn ∧ fitS dn ∧ Dp K H v d ∧
  (isName dn = false → ∀ H', Same H H' → E (.ref (He.ga K "BadName")) none H') ∧ (∀ z, dn = .str z → isName dn = true → some z ∈ os → ∀ H', Same H H' → E (.ref (He.ga K "Known")) none H') ∧ (∀ z, dn = .str z → isName dn = true → some z ∉ os → TakeQ K L os z d H Q E)
def isSw (os : List (Option Str)) : PyData → Bool
  | .str z => isName (.str z) && decide (some z ∈ os)
  | _ => false
theorem isSw_str {os : List (Option Str)} {d : PyData} (h : isSw os d = true) : ∃ z, d = .str z ∧ isName (.str z) = true ∧ some z ∈ os := by
  cases d with
  | str z =>
    simp only [isSw, Bool.and_eq_true, decide_eq_true_eq] at h
    exact ⟨z, rfl, h.1, h.2⟩
  | _ => cases h
theorem isSw_no {os : List (Option Str)} {d : PyData} (h : isName d = false) : isSw os d = false := by
  cases d with
  | str z => simp only [isSw, h, Bool.false_and]
  | _ => rfl
def spHallNeed (K : PySem.W.Frag) : Sp := fun vs H Q E => ∃ (h L : Addr) (dl : PyData) (os : List (Option Str)) (v : V) (d : PyData), vs = [.ref h, v] ∧ HallAt K H h L dl os ∧ Dp K H v d ∧ fitS d ∧ (isSw os d = true → ∀ H', Same H H' → Q .non H') ∧ (isSw os d = false → ∀ H', Same H H' → E (.ref (He.ga K "BadName")) none H')
def spHallGrow (K : PySem.W.Frag) : Sp := fun vs H Q E => ∃ (h L : Addr) (dl : PyData) (os : List (Option Str)) (vn : V) (dn : PyData) (v : V) (d : PyData), vs = [.ref h, vn, v] ∧ HallAt K H h L dl os ∧ Dp K H vn dn ∧ fitS dn ∧ Dp K H v d ∧
  (isSw os dn = false → ∀ H', Same H H' → E (.ref (He.ga K "BadName")) none H') ∧ (∀ z, dn = .str z → isSw os dn = true → TakeQ K L os z d H Q E)
def spHallHeld (K : PySem.W.Frag) : Sp := fun vs H Q E => ∃ (h L : Addr) (dl : PyData) (os : List (Option Str)) (v : V) (d : PyData), vs = [.ref h, v] ∧ HallAt K H h L dl os ∧ Dp K H v d ∧ fitS d ∧
  (∀ z, d = .str z → isSw os d = true → ∀ F H', H F = none → Same H H' → H' F = some (.lst (natsV (idxL os (some z)))) → Q (.ref F) H') ∧ (isSw os d = false → ∀ H', Same H H' → E (.ref (He.ga K "BadName")) none H')
def spHallShrink (K : PySem.W.Frag) : Sp := fun vs H Q E => ∃ (h L : Addr) (dl : PyData) (os : List (Option Str)) (vn : V) (dn : PyData) (v : V) (d : PyData), vs = [.ref h, vn, v] ∧ HallAt K H h L dl os ∧ Dp K H vn dn ∧ fitS dn ∧ Dp K H v d ∧
  (isSw os dn = false → ∀ H', Same H H' → E (.ref (He.ga K "BadName")) none H') ∧ (∀ z, dn = .str z → isSw os dn = true → isNum d 1 ((idxL os (some z)).length : Nat) = false → ∀ H', Same H H' → E (.ref (He.ga K "BadNumber")) none H') ∧
  (∀ (z : Str) (n : Nat), dn = .str z → isSw os dn = true → d = .int (n : Nat) → 1 ≤ n → n ≤ (idxL os (some z)).length → ∀ F H', H F = none → Oth L H H' → H' L = some (.lst ((setAll os ((idxL os (some z)).drop ((idxL os (some z)).length - n)) none).map nmV)) →
    H' F = some (.lst (natsV ((idxL os (some z)).drop ((idxL os (some z)).length - n)))) → Q (.ref F) H')
def spHallOwner (K : PySem.W.Frag) : Sp := fun vs H Q E => ∃ (h L : Addr) (dl : PyData) (os : List (Option Str)) (v : V) (d : PyData), vs = [.ref h, v] ∧ HallAt K H h L dl os ∧ Dp K H v d ∧ (∀ n : Nat, d = .int (n : Nat) → n < 100 → Q (nmV (os.getD n none)) H) ∧ (isNum d 0 99 = false → E (.ref (He.ga K "BadNumber")) none H)
theorem at_own {os : List (Option Str)} {n : Nat} (h : n < os.length) : (os.map nmV)[n]? = some (nmV (os.getD n none)) := by
  rw [List.getElem?_map, List.getElem?_eq_getElem h, List.getD_eq_getElem?_getD, List.getElem?_eq_getElem h]
  rfl
def spHallOf (K : PySem.W.Frag) : Sp := fun vs H Q E => ∃ (h L : Addr) (dl : PyData) (os : List (Option Str)) (v : V) (d : PyData), vs = [.ref h, v] ∧ HallAt K H h L dl os ∧ Dp K H v d ∧ (isUser d = true → Q (nmV (os.getD (placeD d dl).toNat none)) H) ∧ (isUser d = false → E (.ref (He.ga K "BadUser")) none H)
theorem placeD_bd {d dl : PyData} (h : isUser d = true) (hd : isDeal dl = true) : 0 ≤ placeD d dl ∧ placeD d dl < 100 := by
  obtain ⟨n, l, p, rfl, _⟩ := isUser_is h
  obtain ⟨s, t, rfl, _⟩ := isDeal_is hd
  show 0 ≤ (n * s + t) % 100 ∧ (n * s + t) % 100 < 100
  omega
def spHallNames (K : PySem.W.Frag) : Sp := fun vs H Q _ => ∃ (h L : Addr) (dl : PyData) (os : List (Option Str)) (Ls : List Str), vs = [.ref h] ∧ HallAt K H h L dl os ∧ (∀ z, some z ∈ os → z ∈ Ls) ∧ Ls.length < 64 ∧
  ∀ (ys : List Str) (F : Addr) (H' : Hp), H F = none → Same H H' → sortedS ys = true → ys.Nodup → (∀ z, z ∈ ys ↔ some z ∈ os) → H' F = some (.lst (ys.map V.str)) → Q (.ref F) H'
/-- the names among the owners -/
theorem lc_names {K : PySem.W.Frag} {σ : L2.St} {H : Hp} {L : Addr} {os : List (Option Str)} {i : Nat} {Q : VK} (hL : H L = some (.lst (os.map nmV))) (hlen : os.length ≤ 1000) (hw : ∀ x, wipe ((wipe σ [i]).set i (some x)) [i] = wipe σ [i]) (hv : ∀ x, ((wipe σ [i]).set i (some x))[i]? = some (some x))
    (q : ∀ D H', H D = none → Same H H' → H' D = some (.lst ((os.filterMap id).map V.str)) → Q (.ref D) H') : LcGoal (Itl K L) (gName i) (tTest (tOp oNotN (tVar i) (tC .non))) (tVar i) [i] σ H Q := by
  refine lc_pure (walk_list (K := K) (a := L) (xs := os.map nmV)) (by rw [List.length_map]; omega) (os.map fun x => if (!decide (x = none)) = true then [nmV x] else []) (by simp) (fun H' s => lstOf (s _ _ hL)) ?_ ?_
  · rintro D j acc x H' H'' hD hi hacc hH' iv ⟨rfl, hx⟩
    rw [List.getElem?_map] at hx
    obtain ⟨o, ho, rfl⟩ := Option.map_eq_some_iff.mp hx
    rw [List.length_map] at hi
    refine w_name ⟨hw _, w_test (w_op ⟨_, hv _, w_c (w_notN ⟨_, rfl, ?_⟩)⟩)⟩
    rw [nm_none]
    refine if_b (fun hb => ?_) (fun hb => ?_)
    · refine ⟨_, hv _, lcp_nx hD (by omega) hacc hH' iv (Same.refl _) ?_⟩
      rw [List.getElem?_map, ho]
      simp only [Option.map_some, hb]
      rfl
    · refine lcp_sk hacc hH' iv (Same.refl _) ?_
      rw [List.getElem?_map, ho]
      simp only [Option.map_some, hb]
      rfl
  · intro D H' hD s1 hD'
    rw [flat_if (fun x : Option Str => !decide (x = none)) nmV] at hD'
    refine q D H' hD s1 ?_
    rw [hD']
    congr 2
    clear hL hlen hD' s1 hD q
    induction os with
    | nil => rfl
    | cons o os ih =>
      cases o with
      | none => simpa using ih
      | some z =>
        simp only [List.filter_cons, List.filterMap_cons, id]
        simpa [nmV] using ih
theorem mem_fm {os : List (Option Str)} {z : Str} : z ∈ os.filterMap id ↔ some z ∈ os := by
  rw [List.mem_filterMap]
  constructor
  · rintro ⟨o, ho, e⟩
    cases (show o = some z from e)
    exact ho
  · intro h
    exact ⟨some z, h, rfl⟩
/-- sorted(set(names)) -/
theorem w_sortNames {K : PySem.W.Frag} {w : World} {H : Hp} {D : Addr} {os : List (Option Str)} {Ls : List Str} {Q R : VK} (hD : H D = some (.lst ((os.filterMap id).map V.str))) (hl : os.length ≤ 1000) (hLs : ∀ z, some z ∈ os → z ∈ Ls) (h64 : Ls.length < 64) (hR : ∀ x H1, rSortS w [x] H1 Q → R x H1)
    (q : ∀ (ys : List Str) (F : Addr) (H' : Hp), H F = none → Same H H' → sortedS ys = true → ys.Nodup → (∀ z, z ∈ ys ↔ some z ∈ os) → H' F = some (.lst (ys.map V.str)) → Q (.ref F) H') : rSetS K w [.ref D] H R := by
  refine ⟨D, os.filterMap id, rfl, .inl (lstOf hD), Nat.le_trans (List.length_filterMap_le _ _) hl, fun a c na => ?_⟩
  have sa : Same H (upd H a (SetSO w a (fun z => decide (z ∈ os.filterMap id)) c)) := Same.new na
  refine hR _ _ ⟨a, _, c, Ls, rfl, upd_same, fun z hz => hLs z (mem_fm.mp (of_decide_eq_true hz)), h64, fun ys p hs hnd hmem np => ?_⟩
  exact q ys p _ (sa.free np) (sa.trans (Same.new np)) hs hnd (fun z => by rw [hmem z, decide_eq_true_eq, mem_fm]) upd_same
def names5 : List Str := ["ab", "cd", "ef", "gh", "ij"]
theorem names5_ok : ∀ z ∈ names5, isName (.str z) = true := by decide +kernel
theorem names5_len : ∀ z ∈ names5, z.length ≤ 8 := by decide +kernel
def spLName (K : PySem.W.Frag) : Sp := fun vs H Q _ => ∃ a : Addr, vs = [.ref a] ∧ Dice H a ∧ ∀ z H', But a H H' → z ∈ names5 → Q (.str z) H'
def wordsH : List Str := ["come", "come", "grow", "grow", "shrink", "shrink"]
def spHDeed (K : PySem.W.Frag) : Sp := fun vs H Q _ => ∃ (a : Addr) (vo : V), vs = [.ref a, vo] ∧ Dice H a ∧ ∀ (p : Addr) (w z : Str) (n : Nat) (H' : Hp), But a H H' → H p = none → H' p = some (.tup [.str w, .str z, .int (n : Nat)]) → w ∈ wordsH → z ∈ names5 → 1 ≤ n → n ≤ 100 → Q (.ref p) H'
theorem atI_three {r x y z : Int} (h0 : 0 ≤ r) (h1 : r < 3) : ∃ u, atI [V.int x, V.int y, V.int z] r = some (.int u) ∧ (u = x ∨ u = y ∨ u = z) := by
  have h : r = 0 ∨ r = 1 ∨ r = 2 := by omega
  rcases h with rfl | rfl | rfl
  · exact ⟨x, rfl, .inl rfl⟩
  · exact ⟨y, rfl, .inr (.inl rfl)⟩
  · exact ⟨z, rfl, .inr (.inr rfl)⟩
def natsD (is : List Nat) : PyData := .list (is.map fun i => .int (i : Nat))
/-- what a deed of a hall tells, and the owners behind it -/
def hallF (os : List (Option Str)) (w z : Str) (n : Nat) : PyData × List (Option Str) :=
  if (decide (w = "come") != (idxL os (some z)).isEmpty) = true then (refD (if w = "come" then "Known" else "BadName"), os)
  else if w = "shrink" then (if (idxL os (some z)).length < n then (refD "BadNumber", os) else (natsD ((idxL os (some z)).drop ((idxL os (some z)).length - n)), setAll os ((idxL os (some z)).drop ((idxL os (some z)).length - n)) none))
  else if (idxL os none).length < n then (refD "Full", os) else (natsD ((idxL os none).take n), setAll os ((idxL os none).take n) (some z))
/-- data none of whose lists stood in H0 -/
abbrev DpF (K : PySem.W.Frag) (H0 H : Hp) : V → PyData → Prop := KD K (fun b => ¬ NwT H0 b) H
theorem nw_none {H : Hp} {p : Addr} (h : H p = none) : NwT H p := fun u e => by
  rw [h] at e
  cases e
theorem dpf_ref {K : PySem.W.Frag} {H0 H : Hp} {t : Addr} {c : Str} (h : H t = some (.tup [.str "refused", .str c])) : DpF K H0 H (.ref t) (refD c) := .tup (tupOf h) (.cons (.str _) (.cons (.str _) .nil))
theorem kds_nats {K : PySem.W.Frag} {A : Addr → Prop} {H : Hp} : ∀ is : List Nat, KDs K A H (natsV is) (is.map fun i => .int (i : Nat))
  | [] => .nil
  | i :: is => .cons (.int _) (kds_nats is)
theorem dpf_nats {K : PySem.W.Frag} {H0 H : Hp} {F : Addr} {is : List Nat} (n : NwT H0 F) (h : H F = some (.lst (natsV is))) : DpF K H0 H (.ref F) (natsD is) := .lst (fun z => z n) (lstOf h) (kds_nats is)
theorem natsD_gd (is : List Nat) (h : is.length ≤ 1000) : Gd 64 (natsD is) := gd_list (n := 63) (gds_mem fun e he => by
  obtain ⟨i, _, rfl⟩ := List.mem_map.mp he
  exact gd_int) (by rw [List.length_map]; exact h)
theorem eqv_natsS (is : List Nat) : PyData.eqv (natsD is) (natsD is) = true := eqv_listSelf fun d hd => by
  obtain ⟨o, _, rfl⟩ := List.mem_map.mp hd
  simp [PyData.eqv]
theorem nm_eqNil (is : List Nat) : PyData.eqv (natsD is) (.list []) = is.isEmpty := by
  cases is <;> rfl
/-- the loop over a list of owners -/
theorem for_ownL {K : PySem.W.Frag} {H : Hp} {O F : Addr} {os : List (Option Str)} {is : List Nat} {o : Option Str} {g : TG} {tb : TS} {D : Ends} {σ : L2.St} (A : L2.St → Prop) (hO : H O = some (.lst (os.map nmV))) (hF : H F = some (.lst (natsV is))) (hFL : F ≠ O) (h0 : A σ) (hi : ∀ i ∈ is, i < os.length)
    (hs : ∀ (i : Nat) (σ : L2.St) (H' : Hp) (xs : List (Option Str)) (N : L2.St → Hp → Prop), A σ → H' O = some (.lst (xs.map nmV)) → xs.length = os.length → i < xs.length → (∀ σ2 H2, A σ2 → Oth O H' H2 → H2 O = some (.lst ((xs.set i o).map nmV)) → N σ2 H2) → g (.int (i : Nat)) σ H' fun σ2 H2 => tb { D with nx := N, ct := N, bk := D.nx } σ2 H2)
    (hd : ∀ σ H', A σ → Oth O H H' → H' O = some (.lst ((setAll os is o).map nmV)) → D.nx σ H') : ForGoal (Itl K F) g tb D σ H := by
  refine for_go (walk_list (K := K) (a := F) (xs := natsV is)) (fun j σ H' => A σ ∧ Oth O H H' ∧ H' O = some (.lst ((setAll os (is.take j) o).map nmV)) ∧ H' F = some (.lst (natsV is))) ⟨h0, Oth.refl, hO, hF⟩ (fun _ _ H' _ x => lstOf x.2.2.2) ?_ (fun σ H' x => ?_)
  · rintro j x σ H' H'' hj ⟨a, ot, hl, hf⟩ ⟨rfl, hx⟩
    unfold natsV at hx
    rw [List.getElem?_map] at hx
    obtain ⟨i, hij, rfl⟩ := Option.map_eq_some_iff.mp hx
    have hil : i < (setAll os (is.take j) o).length := by rw [setAll_len]; exact hi i (List.mem_of_getElem? hij)
    refine hs i σ H'' _ _ a hl (setAll_len o _ _) hil fun σ2 H2 a2 o2 e2 => ⟨a2, ot.trans o2, ?_, o2 _ _ hf hFL⟩
    have e : setAll os (is.take (j + 1)) o = (setAll os (is.take j) o).set i o := by
      rw [List.take_add_one, hij]
      exact setAll_snoc _ _ _ _
    rw [e]
    exact e2
  · obtain ⟨a, ot, hl, hf⟩ := x
    have e : is.take (natsV is).length = is := List.take_of_length_le (by unfold natsV; simp)
    rw [e] at hl
    exact hd σ H' a ot hl
def spHDue (K : PySem.W.Frag) : Sp := fun vs H Q _ => ∃ (O p : Addr) (os : List (Option Str)) (w z : Str) (n : Nat), vs = [.ref O, .ref p] ∧ H O = some (.lst (os.map nmV)) ∧ os.length = 100 ∧ H p = some (.tup [.str w, .str z, .int (n : Nat)]) ∧ w ∈ wordsH ∧ 1 ≤ n ∧ n ≤ 100 ∧
  ∀ v H', Oth O H H' → H' O = some (.lst ((hallF os w z n).2.map nmV)) → DpF K H H' v (hallF os w z n).1 → Q v H'
def spHDo (K : PySem.W.Frag) (tf : List Str) : Sp := fun vs H Q _ => ∃ (h L : Addr) (dl : PyData) (os : List (Option Str)) (p : Addr) (w z : Str) (n : Nat), vs = [.ref h, .ref p] ∧ HallAt K H h L dl os ∧ H p = some (.tup [.str w, .str z, .int (n : Nat)]) ∧ w ∈ wordsH ∧ z ∈ names5 ∧ 1 ≤ n ∧ n ≤ 100 ∧ LamX.Tabs (tabL K tf) H ∧
  ∀ v H', KpB (fun b => b = L) H H' → H' L = some (.lst ((hallF os w z n).2.map nmV)) → LamX.Tabs (tabL K tf) H' → DpF K H H' v (hallF os w z n).1 → Q v H'
theorem idx_no {os : List (Option Str)} {z : Str} : (idxL os (some z)).isEmpty = !decide (some z ∈ os) := by
  apply Bool.eq_iff_iff.mpr
  rw [List.isEmpty_iff, Bool.not_eq_true', decide_eq_false_iff_not]
  constructor
  · intro e hm
    obtain ⟨i, hi, ei⟩ := List.mem_iff_getElem.mp hm
    have : i ∈ idxL os (some z) := idxL_mem hi (by rw [List.getD_eq_getElem?_getD, List.getElem?_eq_getElem hi, ei]; rfl)
    rw [e] at this
    cases this
  · intro hn
    refine List.eq_nil_iff_forall_not_mem.mpr fun i hi => hn ?_
    have h1 := idxL_lt hi
    have h2 := idxL_at hi
    rw [List.getD_eq_getElem?_getD, List.getElem?_eq_getElem h1] at h2
    rw [← show os[i] = some z from h2]
    exact List.getElem_mem h1
theorem idx_pos {os : List (Option Str)} {z : Str} (h : some z ∈ os) : 1 ≤ (idxL os (some z)).length := by
  have e := idx_no (os := os) (z := z)
  rw [decide_eq_true h] at e
  cases hl : idxL os (some z) with
  | nil =>
    rw [hl] at e
    cases e
  | cons i r => simp
theorem idx_two {os : List (Option Str)} {z : Str} : (idxL os (some z)).length + (idxL os none).length ≤ os.length := by
  rw [idxL_len, idxL_len]
  induction os with
  | nil => simp
  | cons o os ih =>
    simp only [List.countP_cons, List.length_cons]
    cases o with
    | none => simp; omega
    | some y =>
      by_cases e : y = z
      · simp [e]
        omega
      · simp [e]
        omega
theorem fit5 {z : Str} (h : z ∈ names5) : fitS (.str z) := Nat.le_trans (names5_len z h) (by decide)
theorem isSw5 {os : List (Option Str)} {z : Str} (h : z ∈ names5) : isSw os (.str z) = decide (some z ∈ os) := by
  simp only [isSw, names5_ok z h, Bool.true_and]
theorem num_nat {n : Nat} (h1 : 1 ≤ n) (h2 : n ≤ 100) : isNum (.int (n : Nat)) 1 100 = true := by
  have a : (1 : Int) ≤ n := by omega
  have b : (n : Int) ≤ 100 := by omega
  simp [isNum, a, b]
section
variable {K : PySem.W.Frag} {T : List (Addr × Str)} {H H1 H2 H3 : Hp} {h L : Addr} {dl : PyData} {os : List (Option Str)}
/-- a refusal changes nothing but tables -/
theorem kpb_ref (e : ExT T H H1) (s : Same H1 H2) (s' : Same H2 H3) : KpB (fun b => b = L) H H3 := (kpb_exT e).trans (kpb_same (s.trans s'))
theorem HallAt.eT (x : HallAt K H h L dl os) (e : ExT T H H1) : HallAt K H1 h L dl os := x.kpb (A := fun _ => False) (kpb_exT e) (fun _ z => z.elim) (fun z => z)
theorem tup_kpb {A : Addr → Prop} {p : Addr} {xs : List V} (k : KpB A H H1) (l : LsA A H) (hp : H p = some (.tup xs)) : H1 p = some (.tup xs) := k _ _ hp (fun z => by
  obtain ⟨ys, e⟩ := l p z
  rw [hp] at e
  cases e) (fun ps z => by cases z)
end
def spHLike (K : PySem.W.Frag) : Sp := fun vs H Q _ => ∃ (h L : Addr) (dl : PyData) (os : List (Option Str)) (O : Addr), vs = [.ref h, .ref O] ∧ HallAt K H h L dl os ∧ H O = some (.lst (os.map nmV)) ∧ (∀ z, some z ∈ os → z ∈ names5) ∧ ∀ H', Same H H' → Q (.bl true) H'
theorem ButT.kpb {T : List (Addr × Str)} {A : Addr → Prop} {a : Addr} {H H1 H2 : Hp} (b : ButT T a H H1) (k : KpB A H1 H2) (nA : ∀ c, A c → NwT H c) (na : ¬ A a) (t : LamX.Tabs T H2) : ButT T a H H2 := by
  obtain ⟨x, y, hd⟩ := b.d1
  refine ⟨b.d0, ⟨x, y, k _ _ hd na fun ps z => by cases z⟩, fun c o h n m => k c o (b.kp c o h n m) (fun z => ?_) m, fun _ => t⟩
  obtain ⟨ps, e⟩ := nA c z o h
  exact m ps e
theorem HallAt.putK {K : PySem.W.Frag} {H H2 : Hp} {h L : Addr} {d : PyData} {os os' : List (Option Str)} (x : HallAt K H h L d os) (k : KpB (fun b => b = L) H H2) (e : H2 L = some (.lst (os'.map nmV))) (hl : os'.length = 100) : HallAt K H2 h L d os' := by
  obtain ⟨dx, v, h1, h2⟩ := x.obj
  exact ⟨⟨dx, v, k _ _ h1 x.ne (fun ps z => by cases z), dp_tups (fun b xs s => kpb_sqT k (lsa_one x.own) s) (isDeal_imm x.deal) h2⟩, e, hl, x.deal⟩
theorem hallF_len {os : List (Option Str)} {w z : Str} {n : Nat} : (hallF os w z n).2.length = os.length := by
  unfold hallF
  split
  · rfl
  · split
    · split
      · rfl
      · exact setAll_len _ _ _
    · split
      · rfl
      · exact setAll_len _ _ _
theorem setAll_mem {o x : Option Str} : ∀ {is : List Nat} {os : List (Option Str)}, x ∈ setAll os is o → x ∈ os ∨ x = o
  | [], _, h => .inl h
  | i :: is, os, h => by
    rcases setAll_mem (is := is) (os := os.set i o) h with h | h
    · rcases List.mem_or_eq_of_mem_set h with h | h
      · exact .inl h
      · exact .inr h
    · exact .inr h
theorem hallF_names {os : List (Option Str)} {w z : Str} {n : Nat} (hz : z ∈ names5) (h5 : ∀ y, some y ∈ os → y ∈ names5) : ∀ y, some y ∈ (hallF os w z n).2 → y ∈ names5 := by
  intro y hy
  unfold hallF at hy
  split at hy
  · exact h5 y hy
  · split at hy
    · split at hy
      · exact h5 y hy
      · rcases setAll_mem hy with h | h
        · exact h5 y h
        · cases h
    · split at hy
      · exact h5 y hy
      · rcases setAll_mem hy with h | h
        · exact h5 y h
        · cases h
          exact hz
theorem hallF_ok {os : List (Option Str)} {w z : Str} {n : Nat} (hl : os.length ≤ 100) : Gd 64 (hallF os w z n).1 ∧ PyData.eqv (hallF os w z n).1 (hallF os w z n).1 = true := by
  have hr : ∀ c : Str, PyData.canLay0 (.str c) = true → Gd 64 (refD c) ∧ PyData.eqv (refD c) (refD c) = true := fun c hc => ⟨gd_tup (gds_cons (gd_str (by decide +kernel)) (gds_cons (gd_str hc) gds_nil)) (by simp), by simp [PyData.eqv, PyData.eqvAll]⟩
  have hn : ∀ is : List Nat, is.length ≤ 1000 → Gd 64 (natsD is) ∧ PyData.eqv (natsD is) (natsD is) = true := fun is h => ⟨natsD_gd is h, eqv_natsS is⟩
  have l1 := idxL_le os (some z)
  have l2 := idxL_le os none
  unfold hallF
  split
  · by_cases hw : w = "come"
    · rw [if_pos hw]
      exact hr _ (by decide +kernel)
    · rw [if_neg hw]
      exact hr _ (by decide +kernel)
  · split
    · split
      · exact hr _ (by decide +kernel)
      · exact hn _ (by rw [List.length_drop]; omega)
    · split
      · exact hr _ (by decide +kernel)
      · exact hn _ (by rw [List.length_take]; omega)
theorem eqv_strs (ys : List Str) : PyData.eqv (.list (ys.map PyData.str)) (.list (ys.map PyData.str)) = true := eqv_listSelf fun d hd => by
  obtain ⟨y, _, rfl⟩ := List.mem_map.mp hd
  simp [PyData.eqv]
theorem dps_strs {K : PySem.W.Frag} {H : Hp} : ∀ ys : List Str, DpAll K H (ys.map V.str) (ys.map PyData.str)
  | [] => .nil
  | y :: ys => .cons (.str y) (dps_strs ys)
theorem dps_nm {K : PySem.W.Frag} {H : Hp} : ∀ os : List (Option Str), DpAll K H (os.map nmV) (os.map nmD)
  | [] => .nil
  | none :: os => .cons .non (dps_nm os)
  | some z :: os => .cons (.str z) (dps_nm os)
theorem str5_lay {z : Str} (h : z ∈ names5) : PyData.canLay0 (.str z) = true := (by decide +kernel : ∀ z ∈ names5, PyData.canLay0 (.str z) = true) z h
theorem gd_nms {os : List (Option Str)} (h5 : ∀ z, some z ∈ os → z ∈ names5) (hl : os.length ≤ 1000) : Gd 64 (.list (os.map nmD)) := gd_list (n := 63) (gds_mem fun d hd => by
  obtain ⟨o, ho, rfl⟩ := List.mem_map.mp hd
  cases o with
  | none => exact gd_non
  | some z => exact gd_str (str5_lay (h5 z ho))) (by rw [List.length_map]; exact hl)
theorem gd_strs {ys : List Str} (h5 : ∀ z ∈ ys, z ∈ names5) (hl : ys.length ≤ 1000) : Gd 64 (.list (ys.map PyData.str)) := gd_list (n := 63) (gds_mem fun d hd => by
  obtain ⟨z, hz, rfl⟩ := List.mem_map.mp hd
  exact gd_str (str5_lay (h5 z hz))) (by rw [List.length_map]; exact hl)
theorem eqv_nms (os : List (Option Str)) : PyData.eqv (.list (os.map nmD)) (.list (os.map nmD)) = true := eqv_listSelf fun d hd => by
  obtain ⟨o, _, rfl⟩ := List.mem_map.mp hd
  cases o <;> simp [nmD, PyData.eqv]
theorem eqv_nats (is : List Nat) : PyData.eqv (natsD is) (natsD is) = true := eqv_listSelf fun d hd => by
  obtain ⟨o, _, rfl⟩ := List.mem_map.mp hd
  simp [PyData.eqv]
theorem nd5_le {ys : List Str} (nd : ys.Nodup) (h : ∀ z ∈ ys, z ∈ names5) : ys.length ≤ 5 := by
  have gen : ∀ {l L : List Str}, l.Nodup → (∀ x ∈ l, x ∈ L) → l.length ≤ L.length := by
    intro l
    induction l with
    | nil => intro L _ _; exact Nat.zero_le _
    | cons x l ih =>
      intro L n h
      rw [List.nodup_cons] at n
      have hx := h x (by simp)
      have := ih (L := L.erase x) n.2 fun y hy => (List.mem_erase_of_ne (fun (z : y = x) => n.1 (by rw [← z]; exact hy))).mpr (h y (by simp [hy]))
      rw [List.length_erase_of_mem hx] at this
      have := List.length_pos_of_mem hx
      rw [List.length_cons]
      omega
  exact gen nd h
theorem nd5_len {ys : List Str} (nd : ys.Nodup) (h : ∀ z ∈ ys, z ∈ names5) : ys.length ≤ 1000 := Nat.le_trans (nd5_le nd h) (by decide)
theorem ok_is_number (T : Tx K mg) : Ok P w K mg base 1 "is_number" ["thing", "low", "high"] (spIsNum K) := by
  refine Ok.mk' T.G_is_number T.F_is_number (fun _ _ _ _ _ _ us hl => match us, hl with | [_, _, _], _ => rfl) sc_is_number (fun vs H Q E h => ?_) (fun cdv A outer s H vs Q E hr h => ?_)
  · obtain ⟨v, d, lo, hi, rfl, hd, q⟩ := h
    rfl
  · obtain ⟨v, d, lo, hi, rfl, hd, q⟩ := h
    refine ⟨(tRet (tAndV (tCB (rIsi K) (tCons (tVar 0) (tCons (tC (.ty "int")) tNil))) (tAndV (tNotV (tCB (rIsi K) (tCons (tVar 0) (tCons (tC (.ty "bool")) tNil)))) (tChain oLe oLe (tVar 1) (tVar 0) (tVar 2))))), (pss_one (ps_ret (pe_and (pe_callB call_isi (by rfl) T.Z_isinstance (by decide +kernel) (pa_cons (pv 0) (pa_cons (pe_bltn (v := .ty "int") (by rfl) T.Z_int (by decide +kernel) rfl) pa_nil))) (pe_and (pe_not (pe_callB call_isi (by rfl) T.Z_isinstance (by decide +kernel) (pa_cons (pv 0) (pa_cons (pe_bltn (v := .ty "bool") (by rfl) T.Z_bool (by decide +kernel) rfl) pa_nil)))) (pe_one (pe_chain op_le op_le (pv 1) (pv 0) (pv 2))))))), ?_⟩
    walk_at "0"
    walk_at "g"
    refine isi_int hd ?_
    walk_at "g"
    cases d with
    | int i =>
      cases hd
      refine if_t rfl ?_
      walk_at "g"
      refine isi_bool (.int i) ?_
      walk_at "g"
      refine if_b (fun h => ?_) (fun h => ?_)
      · walk_at "g"
        have e : isNum (.int i) lo hi = decide (i ≤ hi) := by
          simp only [isNum, h, Bool.true_and]
        rw [← e]
        exact q
      · have e : isNum (.int i) lo hi = false := by
          simp only [isNum, h, Bool.false_and]
        rw [← e]
        exact q
    | bool b =>
      cases hd
      refine if_t rfl ?_
      walk_at "g"
      refine isi_bool (.bl b) ?_
      walk_at "g"
      exact q
    | _ => exact if_f rfl q
theorem ok_rest (T : Tx K mg) : Ok P w K mg base 1 "rest" ["number", "by"] (spRest) := by
  refine Ok.mk' T.G_rest T.F_rest (fun _ _ _ _ _ _ us hl => match us, hl with | [_, _], _ => rfl) sc_rest (fun vs H Q E h => ?_) (fun cdv A outer s H vs Q E hr h => ?_)
  · obtain ⟨n, m, rfl, h1, h2, q⟩ := h
    rfl
  · obtain ⟨n, m, rfl, h1, h2, q⟩ := h
    refine ⟨(tRet (tOp oSub (tVar 0) (tOp oMul (tOp oDiv (tVar 0) (tVar 1)) (tVar 1)))), (pss_one (ps_ret (pe_op op_sub (pv 0) (pe_op op_mul (pe_op op_fdivW (pv 0) (pv 1)) (pv 1))))), ?_⟩
    walk_at "0"
    walk_at "g"
    refine w_I (divW h1 (by omega)) ?_
    walk_at "g"
    refine w_I (.inr ⟨by omega, by omega⟩) ?_
    walk_at "g"
    rw [rest_eq]
    exact q
theorem ok_need_user (T : Tx K mg) : Ok P w K mg base 2 "need_user" ["thing"] (spNeedUser K) := by
  refine Ok.mk' T.G_need_user T.F_need_user (fun _ _ _ _ _ _ us hl => match us, hl with | [_], _ => rfl) sc_need_user (fun vs H Q E h => ?_) (fun cdv A outer s H vs Q E hr h => ?_)
  · obtain ⟨v, d, rfl, hd, q1, q2⟩ := h
    rfl
  · obtain ⟨v, d, rfl, hd, q1, q2⟩ := h
    refine ⟨(tSeq (tIfS (tOr (tNot (tB (tCB (rIsi K) (tCons (tVar 0) (tCons (tC (.ty "tuple")) tNil))))) (tOr (tTest (tOp rNe (tCB (cLen K) (tCons (tVar 0) tNil)) (tC (.int 3)))) (tNot (tB (tCall (spIsNum K) [] E (tCons (tOp (rIxT K) (tVar 0) (tC (.int 0))) (tCons (tC (.int 0)) (tCons (tC (.int 1000000000000)) tNil)))))))) (tRz K E "BadUser") tNext)
      (tIfS (tOr (tNot (tB (tCall (spIsNum K) [] E (tCons (tOp (rIxT K) (tVar 0) (tC (.int 1))) (tCons (tC (.int 0)) (tCons (tOp oSub (tC (.int 6)) (tC (.int 1))) tNil)))))) (tNot (tB (tCall (spIsNum K) [] E (tCons (tOp (rIxT K) (tVar 0) (tC (.int 2))) (tCons (tC (.int 0)) (tCons (tOp oSub (tC (.int 4)) (tC (.int 1))) tNil))))))) (tRz K E "BadUser") tNext)), (pss_cons (ps_if (PW.pt (pw_or (pt_not (pt_val (pe_callB call_isi (by rfl) T.Z_isinstance (by decide +kernel) (pa_cons (pv 0) (pa_cons (pe_bltn (v := .ty "tuple") (by rfl) T.Z_tuple (by decide +kernel) rfl) pa_nil))))) (pw_or (pt_cmpR op_ne (pe_callB call_len (by rfl) T.Z_len (by decide +kernel) (pa_cons (pv 0) pa_nil)) pe_int (nomark _)) (pw_or1 (pt_not (pt_val (pe_f (ok_is_number T) hr (pnx (L2N.takes_of rfl rfl rfl rfl)) (pa_cons (pe_ix ix_tup (pv 0) pe_int (fun _ _ => rfl)) (pa_cons pe_int (pa_cons (pe_gi T.I_GREATEST) pa_nil)))))))))) (pss_one (ps_rz T.X_BadUser (L2N.takes_of rfl rfl rfl rfl))) pss_nil)
      (pss_one (ps_if (PW.pt (pw_or (pt_not (pt_val (pe_f (ok_is_number T) hr (pnx (L2N.takes_of rfl rfl rfl rfl)) (pa_cons (pe_ix ix_tup (pv 0) pe_int (fun _ _ => rfl)) (pa_cons pe_int (pa_cons (pe_op op_sub (pe_gi T.I_LANDS) pe_int) pa_nil)))))) (pw_or1 (pt_not (pt_val (pe_f (ok_is_number T) hr (pnx (L2N.takes_of rfl rfl rfl rfl)) (pa_cons (pe_ix ix_tup (pv 0) pe_int (fun _ _ => rfl)) (pa_cons pe_int (pa_cons (pe_op op_sub (pe_gi T.I_PLANS) pe_int) pa_nil))))))))) (pss_one (ps_rz T.X_BadUser (L2N.takes_of rfl rfl rfl rfl))) pss_nil))), ?_⟩
    walk_at "0"
    walk_at "g"
    refine isi_tuple hd ?_
    walk_at "g"
    by_cases ht : isTupD d = true
    · obtain ⟨ds, rfl⟩ : ∃ ds, d = .tuple ds := by
        cases d <;> first | exact ⟨_, rfl⟩ | cases ht
      refine if_f rfl ?_
      walk_at "g"
      refine w_lenD hd ?_
      walk_at "g"
      refine if_b (fun h => ?_) (fun h => ?_)
      · refine if_t rfl ?_
        walk_at "g"
        refine q2 (isUser_len fun z => ?_)
        rw [z] at h
        simp at h
      · have hl : ds.length = 3 := by
          simp at h
          omega
        match ds, hl with
        | [a, b, c], _ =>
        walk_at "g"
        refine w_ixD0 hd fun u0 h0 => ?_
        walk_at "g"
        refine ⟨_, _, _, _, rfl, h0, ?_⟩
        walk_at "g"
        cases e0 : isNum a 0 1000000000000
        · walk_at "g"
          refine q2 ?_
          simp only [isUser, e0, Bool.false_and]
        · walk_at "g"
          refine w_ixD1 hd fun u1 h1 => ?_
          walk_at "g"
          refine ⟨_, _, _, _, rfl, h1, ?_⟩
          walk_at "g"
          cases e1 : isNum b 0 (6 - 1)
          · walk_at "g"
            refine q2 ?_
            have e1 : isNum b 0 5 = false := e1
            simp only [isUser, e0, e1, Bool.false_and, Bool.and_false]
          · have e1 : isNum b 0 5 = true := e1
            walk_at "g"
            refine w_ixD2 hd fun u2 h2 => ?_
            walk_at "g"
            refine ⟨_, _, _, _, rfl, h2, ?_⟩
            walk_at "g"
            cases e2 : isNum c 0 (4 - 1)
            · walk_at "g"
              refine q2 ?_
              have e2 : isNum c 0 3 = false := e2
              simp only [isUser, e0, e1, e2, Bool.and_false]
            · walk_at "g"
              refine q1 ?_
              have e2 : isNum c 0 3 = true := e2
              simp only [isUser, e0, e1, e2, Bool.and_true]
    · have ht : isTupD d = false := by simpa using ht
      rw [ht]
      walk_at "g"
      refine q2 ?_
      cases d <;> first | rfl | cases ht
theorem ok_need_deal (T : Tx K mg) : Ok P w K mg base 2 "need_deal" ["thing"] (spNeedDeal K) := by
  refine Ok.mk' T.G_need_deal T.F_need_deal (fun _ _ _ _ _ _ us hl => match us, hl with | [_], _ => rfl) sc_need_deal (fun vs H Q E h => ?_) (fun cdv A outer s H vs Q E hr h => ?_)
  · obtain ⟨v, d, rfl, hd, q1, q2⟩ := h
    rfl
  · obtain ⟨v, d, rfl, hd, q1, q2⟩ := h
    refine ⟨(tSeq (tIfS (tOr (tNot (tB (tCB (rIsi K) (tCons (tVar 0) (tCons (tC (.ty "tuple")) tNil))))) (tTest (tOp rNe (tCB (cLen K) (tCons (tVar 0) tNil)) (tC (.int 2))))) (tRz K E "BadDeal") tNext)
      (tSeq (tIfS (tOr (tNot (tB (tCall (spIsNum K) [] E (tCons (tOp (rIxT K) (tVar 0) (tC (.int 0))) (tCons (tC (.int 0)) (tCons (tOp oSub (tC (.int 100)) (tC (.int 1))) tNil)))))) (tNot (tB (tCall (spIsNum K) [] E (tCons (tOp (rIxT K) (tVar 0) (tC (.int 1))) (tCons (tC (.int 0)) (tCons (tOp oSub (tC (.int 100)) (tC (.int 1))) tNil))))))) (tRz K E "BadDeal") tNext)
      (tIfS (tOr (tTest (tOp rEq (tCall (spRest) [] E (tCons (tOp (rIxT K) (tVar 0) (tC (.int 0))) (tCons (tC (.int 2)) tNil))) (tC (.int 0)))) (tTest (tOp rEq (tCall (spRest) [] E (tCons (tOp (rIxT K) (tVar 0) (tC (.int 0))) (tCons (tC (.int 5)) tNil))) (tC (.int 0))))) (tRz K E "BadDeal") tNext))), (pss_cons (ps_if (PW.pt (pw_or (pt_not (pt_val (pe_callB call_isi (by rfl) T.Z_isinstance (by decide +kernel) (pa_cons (pv 0) (pa_cons (pe_bltn (v := .ty "tuple") (by rfl) T.Z_tuple (by decide +kernel) rfl) pa_nil))))) (pw_or1 (pt_cmpR op_ne (pe_callB call_len (by rfl) T.Z_len (by decide +kernel) (pa_cons (pv 0) pa_nil)) pe_int (nomark _))))) (pss_one (ps_rz T.X_BadDeal (L2N.takes_of rfl rfl rfl rfl))) pss_nil)
      (pss_cons (ps_if (PW.pt (pw_or (pt_not (pt_val (pe_f (ok_is_number T) hr (pnx (L2N.takes_of rfl rfl rfl rfl)) (pa_cons (pe_ix ix_tup (pv 0) pe_int (fun _ _ => rfl)) (pa_cons pe_int (pa_cons (pe_op op_sub (pe_gi T.I_PLACES) pe_int) pa_nil)))))) (pw_or1 (pt_not (pt_val (pe_f (ok_is_number T) hr (pnx (L2N.takes_of rfl rfl rfl rfl)) (pa_cons (pe_ix ix_tup (pv 0) pe_int (fun _ _ => rfl)) (pa_cons pe_int (pa_cons (pe_op op_sub (pe_gi T.I_PLACES) pe_int) pa_nil))))))))) (pss_one (ps_rz T.X_BadDeal (L2N.takes_of rfl rfl rfl rfl))) pss_nil)
      (pss_one (ps_if (PW.pt (pw_or (pt_cmpR op_eq (pe_f (ok_rest T) hr (pnx (L2N.takes_of rfl rfl rfl rfl)) (pa_cons (pe_ix ix_tup (pv 0) pe_int (fun _ _ => rfl)) (pa_cons pe_int pa_nil))) pe_int (nomark _)) (pw_or1 (pt_cmpR op_eq (pe_f (ok_rest T) hr (pnx (L2N.takes_of rfl rfl rfl rfl)) (pa_cons (pe_ix ix_tup (pv 0) pe_int (fun _ _ => rfl)) (pa_cons pe_int pa_nil))) pe_int (nomark _))))) (pss_one (ps_rz T.X_BadDeal (L2N.takes_of rfl rfl rfl rfl))) pss_nil)))), ?_⟩
    walk_at "0"
    walk_at "g"
    refine isi_tuple hd ?_
    walk_at "g"
    by_cases ht : isTupD d = true
    · obtain ⟨ds, rfl⟩ : ∃ ds, d = .tuple ds := by
        cases d <;> first | exact ⟨_, rfl⟩ | cases ht
      refine if_f rfl ?_
      walk_at "g"
      refine w_lenD hd ?_
      walk_at "g"
      refine if_b (fun h => ?_) (fun h => ?_)
      · walk_at "g"
        refine q2 (isDeal_len fun z => ?_)
        rw [z] at h
        simp at h
      · have hl : ds.length = 2 := by
          simp at h
          omega
        match ds, hl with
        | [a, b], _ =>
        walk_at "g"
        refine w_ixD0 hd fun u0 h0 => ?_
        walk_at "g"
        refine ⟨_, _, _, _, rfl, h0, ?_⟩
        walk_at "g"
        cases e0 : isNum a 0 (100 - 1)
        · walk_at "g"
          exact q2 (isDeal_a e0)
        · walk_at "g"
          refine w_ixD1 hd fun u1 h1 => ?_
          walk_at "g"
          refine ⟨_, _, _, _, rfl, h1, ?_⟩
          walk_at "g"
          cases e1 : isNum b 0 (100 - 1)
          · walk_at "g"
            exact q2 (isDeal_b e1)
          · walk_at "g"
            obtain ⟨i, rfl, i0, i1⟩ := isNum_int e0
            obtain ⟨j, rfl, j0, j1⟩ := isNum_int e1
            refine w_ixD0 hd fun u2 h2 => ?_
            cases dp_int h2
            walk_at "g"
            refine ⟨i, 2, rfl, by decide, by decide, ?_⟩
            walk_at "g"
            refine if_b (fun z => ?_) (fun z => ?_)
            · walk_at "g"
              refine q2 ?_
              unfold isDeal
              simp only [z, Bool.not_true, Bool.false_and, Bool.and_false]
            · walk_at "g"
              refine w_ixD0 hd fun u3 h3 => ?_
              cases dp_int h3
              walk_at "g"
              refine ⟨i, 5, rfl, by decide, by decide, ?_⟩
              walk_at "g"
              refine if_b (fun z2 => ?_) (fun z2 => ?_)
              · walk_at "g"
                refine q2 ?_
                unfold isDeal
                simp only [z2, Bool.not_true, Bool.and_false]
              · walk_at "g"
                refine q1 ?_
                have a1 : (decide (0 ≤ i) && decide (i ≤ 99)) = true := e0
                have b1 : (decide (0 ≤ j) && decide (j ≤ 99)) = true := e1
                unfold isDeal
                simp only [z, z2, a1, b1, Bool.not_false, Bool.and_true]
    · have ht : isTupD d = false := by simpa using ht
      rw [ht]
      walk_at "g"
      refine q2 ?_
      cases d <;> first | rfl | cases ht
theorem ok_place_of (T : Tx K mg) : Ok P w K mg base 2 "place_of" ["number", "deal"] (spPlaceOf K) := by
  refine Ok.mk' T.G_place_of T.F_place_of (fun _ _ _ _ _ _ us hl => match us, hl with | [_, _], _ => rfl) sc_place_of (fun vs H Q E h => ?_) (fun cdv A outer s H vs Q E hr h => ?_)
  · obtain ⟨n, v, s, t, rfl, hd, h1, h2, q⟩ := h
    rfl
  · obtain ⟨n, v, s, t, rfl, hd, h1, h2, q⟩ := h
    refine ⟨(tRet (tCall (spRest) [] E (tCons (tOp oAdd (tOp oMul (tVar 0) (tOp (rIxT K) (tVar 1) (tC (.int 0)))) (tOp (rIxT K) (tVar 1) (tC (.int 1)))) (tCons (tC (.int 100)) tNil)))), (pss_one (ps_ret (pe_f (ok_rest T) hr (pnx (L2N.takes_of rfl rfl rfl rfl)) (pa_cons (pe_op op_add (pe_op op_mul (pv 0) (pe_ix ix_tup (pv 1) pe_int (fun _ _ => rfl))) (pe_ix ix_tup (pv 1) pe_int (fun _ _ => rfl))) (pa_cons (pe_gi T.I_PLACES) pa_nil))))), ?_⟩
    walk_at "0"
    walk_at "g"
    refine w_ixD0 hd fun u0 h0 => ?_
    cases dp_int h0
    refine w_I (.inr ⟨by omega, by omega⟩) ?_
    walk_at "g"
    refine w_ixD1 hd fun u1 h1 => ?_
    cases dp_int h1
    walk_at "g"
    exact ⟨_, _, rfl, by decide, by decide, q⟩
theorem ok_place (T : Tx K mg) : Ok P w K mg base 3 "place" ["user", "deal"] (spPlace K) := by
  refine Ok.mk' T.G_place T.F_place (fun _ _ _ _ _ _ us hl => match us, hl with | [_, _], _ => rfl) sc_place (fun vs H Q E h => ?_) (fun cdv A outer s H vs Q E hr h => ?_)
  · obtain ⟨u, v, d, e, rfl, hd, he, q1, q2, q3⟩ := h
    rfl
  · obtain ⟨u, v, d, e, rfl, hd, he, q1, q2, q3⟩ := h
    refine ⟨(tSeq (tDrop (tCall (spNeedUser K) [] E (tCons (tVar 0) tNil)))
      (tSeq (tDrop (tCall (spNeedDeal K) [] E (tCons (tVar 1) tNil)))
      (tRet (tCall (spPlaceOf K) [] E (tCons (tOp (rIxT K) (tVar 0) (tC (.int 0))) (tCons (tVar 1) tNil)))))), (pss_cons (ps_expr (pe_f (ok_need_user T) hr (pnx (L2N.takes_of rfl rfl rfl rfl)) (pa_cons (pv 0) pa_nil)))
      (pss_cons (ps_expr (pe_f (ok_need_deal T) hr (pnx (L2N.takes_of rfl rfl rfl rfl)) (pa_cons (pv 1) pa_nil)))
      (pss_one (ps_ret (pe_f (ok_place_of T) hr (pnx (L2N.takes_of rfl rfl rfl rfl)) (pa_cons (pe_ix ix_tup (pv 0) pe_int (fun _ _ => rfl)) (pa_cons (pv 1) pa_nil))))))), ?_⟩
    walk_at "0"
    walk_at "g"
    refine ⟨_, _, rfl, hd, fun hu => ?_, q2⟩
    walk_at "g"
    refine ⟨_, _, rfl, he, fun hv => ?_, q3 hu⟩
    walk_at "g"
    have qq := q1 hu hv
    obtain ⟨n, l, p, rfl, n0, n1, _⟩ := isUser_is hu
    obtain ⟨s', t', rfl, s0, s1, _⟩ := isDeal_is hv
    refine w_ixD0 hd fun u0 h0 => ?_
    cases dp_int h0
    walk_at "g"
    exact ⟨_, _, _, _, rfl, he, s0, s1, qq⟩
theorem ok_is_name (T : Tx K mg) : Ok P w K mg base 1 "is_name" ["thing"] (spIsName K) := by
  refine Ok.mk' T.G_is_name T.F_is_name (fun _ _ _ _ _ _ us hl => match us, hl with | [_], _ => rfl) sc_is_name (fun vs H Q E h => ?_) (fun cdv A outer s H vs Q E hr h => ?_)
  · obtain ⟨v, d, rfl, hd, hz, q⟩ := h
    rfl
  · obtain ⟨v, d, rfl, hd, hz, q⟩ := h
    refine ⟨(tRet (tAndV (tCB (rIsi K) (tCons (tVar 0) (tCons (tC (.ty "str")) tNil))) (tAndV (tChain oLe oLe (tC (.int 1)) (tCB (cLen K) (tCons (tVar 0) tNil)) (tC (.int 8))) (tCB (rAll K) (tCons (tLc (iStr (tVar 0)) (gName 1) tYes (tOp rInSg (tVar 1) (tC (.str "abcdefghijklmnopqrstuvwxyz"))) [1]) tNil))))), (pss_one (ps_ret (pe_and (pe_callB call_isi (by rfl) T.Z_isinstance (by decide +kernel) (pa_cons (pv 0) (pa_cons (pe_bltn (v := .ty "str") (by rfl) T.Z_str (by decide +kernel) rfl) pa_nil))) (pe_and (pe_chain op_le op_le pe_int (pe_callB call_len (by rfl) T.Z_len (by decide +kernel) (pa_cons (pv 0) pa_nil)) pe_int) (pe_one (pe_callB (cr_all rfl) (by rfl) T.Z_all (by decide +kernel) (pa_cons (pe_lc (own := [("sign", 1)]) rfl sc_is_name.nd (pi_str (pv 0)) (blkOk_by (own := [("sign", 1)]) (N := ["thing", "sign"]) (sc := defScope s_is_name) (by decide +kernel)) (fun _ _ _ _ _ => (pg_name (i := 1) sc_is_name.nd rfl (by first | exact Or.inl rfl | exact Or.inr rfl))) (fun _ _ _ _ _ => pts_nil) (fun _ _ _ _ _ => (pe_cmpR op_in_sign (pv 1) (pe_gs T.S_LETTERS) (by rfl)))) pa_nil))))))), ?_⟩
    walk_at "0"
    walk_at "g"
    refine isi_str hd ?_
    walk_at "g"
    cases hS : isStrD d with
    | false =>
      walk_at "g"
      rw [← isName_no hS]
      exact q _ (Same.refl _)
    | true =>
      obtain ⟨z, rfl⟩ := is_str hS
      cases dp_str hd
      walk_at "g"
      refine w_lenS hz ?_
      walk_at "g"
      have hcs : z.cps.size = z.length := rfl
      refine if_b (fun h1 => ?_) (fun h1 => ?_)
      · have h1 := of_decide_eq_true h1
        walk_at "g"
        refine if_b (fun h8 => ?_) (fun h8 => ?_)
        · have h8 := of_decide_eq_true h8
          walk_at "g"
          refine w_iStr (w_var rfl ⟨z, rfl, ?_⟩)
          refine lc_pure (walk_str (z := z)) (by omega) (z.cps.toList.map fun c => [V.bl (decide (c ∈ lettersL))]) (by rw [List.length_map, Array.length_toList]) (fun _ _ => trivial) ?_ ?_
          · rintro D i acc x H' H'' hD hi hacc hH' iv ⟨rfl, c, hc, rfl⟩
            walk_at "g"
            refine ⟨rfl, ?_⟩
            walk_at "g"
            refine w_inSg ?_
            refine lcp_nx hD (by omega) hacc hH' iv (Same.refl _) ?_
            rw [List.getElem?_map, Array.getElem?_toList, hc]
            rfl
          · intro D H2 hD s2 hH2
            rw [flat_one (fun c => V.bl (decide (c ∈ lettersL)))] at hH2
            have hH2' : H2 D = some (.lst ((z.cps.toList.map fun c => decide (c ∈ lettersL)).map V.bl)) := by
              rw [hH2, List.map_map]
              rfl
            walk_at "g"
            refine w_all (lstOf hH2') ?_
            have e : (z.cps.toList.map fun c => decide (c ∈ lettersL)).all id = isName (.str z) := by
              have a1 : 1 ≤ z.length := by omega
              have a2 : z.length ≤ 8 := by omega
              simp only [isName, a1, a2, decide_true, Bool.true_and, List.all_map]
              rfl
            rw [e]
            exact q _ s2
        · have h8 := of_decide_eq_false h8
          walk_at "g"
          have e : isName (.str z) = false := by
            have a2 : ¬ z.length ≤ 8 := by omega
            simp [isName, a2]
          rw [← e]
          exact q _ (Same.refl _)
      · have h1 := of_decide_eq_false h1
        walk_at "g"
        have e : isName (.str z) = false := by
          have a2 : ¬ 1 ≤ z.length := by omega
          simp [isName, a2]
        rw [← e]
        exact q _ (Same.refl _)
theorem ok_need_name (T : Tx K mg) : Ok P w K mg base 2 "need_name" ["thing"] (spNeedName K) := by
  refine Ok.mk' T.G_need_name T.F_need_name (fun _ _ _ _ _ _ us hl => match us, hl with | [_], _ => rfl) sc_need_name (fun vs H Q E h => ?_) (fun cdv A outer s H vs Q E hr h => ?_)
  · obtain ⟨v, d, rfl, hd, hz, q1, q2⟩ := h
    rfl
  · obtain ⟨v, d, rfl, hd, hz, q1, q2⟩ := h
    refine ⟨(tIfS (tNot (tB (tCall (spIsName K) [] E (tCons (tVar 0) tNil)))) (tRz K E "BadName") tNext), (pss_one (ps_if (pt_not (pt_val (pe_f (ok_is_name T) hr (pnx (L2N.takes_of rfl rfl rfl rfl)) (pa_cons (pv 0) pa_nil)))) (pss_one (ps_rz T.X_BadName (L2N.takes_of rfl rfl rfl rfl))) pss_nil)), ?_⟩
    walk_at "0"
    walk_at "g"
    refine ⟨v, d, rfl, hd, hz, fun H1 s1 => ?_⟩
    walk_at "g"
    cases h : isName d with
    | true =>
      walk_at "g"
      exact q1 h _ s1
    | false =>
      walk_at "g"
      exact q2 h _ s1
theorem ok_need_many (T : Tx K mg) : Ok P w K mg base 2 "need_many" ["thing", "least", "most"] (spNeedMany K) := by
  refine Ok.mk' T.G_need_many T.F_need_many (fun _ _ _ _ _ _ us hl => match us, hl with | [_, _, _], _ => rfl) sc_need_many (fun vs H Q E h => ?_) (fun cdv A outer s H vs Q E hr h => ?_)
  · obtain ⟨v, d, lo, hi, rfl, hd, q1, q2⟩ := h
    rfl
  · obtain ⟨v, d, lo, hi, rfl, hd, q1, q2⟩ := h
    refine ⟨(tIfS (tNot (tB (tCall (spIsNum K) [] E (tCons (tVar 0) (tCons (tVar 1) (tCons (tVar 2) tNil)))))) (tRz K E "BadNumber") tNext), (pss_one (ps_if (pt_not (pt_val (pe_f (ok_is_number T) hr (pnx (L2N.takes_of rfl rfl rfl rfl)) (pa_cons (pv 0) (pa_cons (pv 1) (pa_cons (pv 2) pa_nil)))))) (pss_one (ps_rz T.X_BadNumber (L2N.takes_of rfl rfl rfl rfl))) pss_nil)), ?_⟩
    walk_at "0"
    walk_at "g"
    refine ⟨v, d, lo, hi, rfl, hd, ?_⟩
    walk_at "g"
    cases h : isNum d lo hi with
    | true =>
      walk_at "g"
      exact q1 h
    | false =>
      walk_at "g"
      exact q2 h
theorem ok_Hall___init__ (T : Tx K mg) : OkM P w K mg base 3 "Hall" "__init__" ["self", "deal"] (spHallInit K) := by
  refine OkM.mk' T.M_Hall___init__ T.F_Hall___init__ (fun _ _ _ _ _ _ us hl => match us, hl with | [_, _], _ => rfl) sc_Hall___init__ (fun vs H Q E h => ?_) (fun cdv A outer s H vs Q E hr h => ?_)
  · obtain ⟨x, dx, v, d, rfl, hx, hd, q1, q2⟩ := h
    rfl
  · obtain ⟨x, dx, v, d, rfl, hx, hd, q1, q2⟩ := h
    refine ⟨(tSeq (tDrop (tCall (spNeedDeal K) [] E (tCons (tVar 1) tNil)))
      (tSeq (sFld K (tVar 0) (tVar 1) "deal")
      (sFld K (tVar 0) (tOp rRep (tLst (tCons (tC .non) tNil)) (tC (.int 100))) "owners"))), (pss_cons (ps_expr (pe_f (ok_need_deal T) hr (pnx (L2N.takes_of rfl rfl rfl rfl)) (pa_cons (pv 1) pa_nil)))
      (pss_cons (ps_fld (pv 0) (pv 1) rfl)
      (pss_one (ps_fld (pv 0) (pe_op op_rep (pe_lst (pa_cons pe_non pa_nil)) (pe_gi T.I_PLACES)) rfl)))), ?_⟩
    walk_at "0"
    walk_at "g"
    refine ⟨v, d, rfl, hd, fun hD => ?_, q2⟩
    walk_at "p"
    refine w_sfld (w_var rfl (w_var rfl ⟨x, _, dx, _, rfl, hx, T.C_Hall, T.N_Hall_deal, by simp, ?_⟩))
    walk_at "p"
    refine w_sfld ?_
    refine evl_use (K := K) (evl_rep (n := 100) rfl (by walk_at "d") (len_ok rfl) (by decide)) fun L vs H2 s2 nL hL hvs => ?_
    cases dps_non hvs
    have nL0 : H L = none := by
      rw [upd_ne (fun z => by rw [z, upd_same] at nL; cases nL)] at nL
      exact nL
    have nLx : L ≠ x := fun z => by
      rw [z, hx] at nL0
      cases nL0
    refine w_var rfl ⟨x, _, dx, _, rfl, s2 _ _ upd_same, T.C_Hall, T.N_Hall_owners, by simp [putF], ?_⟩
    refine q1 hD L _ nL0 (fun b o hb nb => ?_) upd_same (by rw [upd_ne nLx]; exact hL)
    rw [upd_ne nb]
    exact s2 _ _ (by rw [upd_ne nb]; exact hb)
theorem ok_Hall_free (T : Tx K mg) : OkM P w K mg base 1 "Hall" "free" ["self"] (spHallFree K) := by
  refine OkM.mk' T.M_Hall_free T.F_Hall_free (fun _ _ _ _ _ _ us hl => match us, hl with | [_], _ => rfl) sc_Hall_free (fun vs H Q E h => ?_) (fun cdv A outer s H vs Q E hr h => ?_)
  · obtain ⟨h, L, dl, os, rfl, hA, q⟩ := h
    rfl
  · obtain ⟨h, L, dl, os, rfl, hA, q⟩ := h
    refine ⟨(tRet (tLc (iEnum K (tCons (tFld K (tVar 0) "owners") tNil)) (gTup K 2 (gCons (gName 1) (gCons (gName 2) gNil))) (tTest (tOp oIsN (tVar 2) (tC .non))) (tVar 1) [1, 2])), (pss_one (ps_ret (pe_lc (own := [("at", 1), ("name", 2)]) rfl sc_Hall_free.nd (pi_enum (by rfl) T.Z_enumerate (pa_cons (pe_fld (pv 0) rfl) pa_nil)) (blkOk_by (own := [("at", 1), ("name", 2)]) (N := ["self", "at", "name"]) (sc := defScope s_Hall_free) (by decide +kernel)) (fun _ _ _ _ _ => (pg_tup (by rfl) (pgs_cons (pg_name (i := 1) sc_Hall_free.nd rfl (by first | exact Or.inl rfl | exact Or.inr rfl)) (pgs_cons (pg_name (i := 2) sc_Hall_free.nd rfl (by first | exact Or.inl rfl | exact Or.inr rfl)) pgs_nil)))) (fun _ _ _ _ _ => (pts_one (pt_cmpR op_isN (pv 2) pe_non (nomark _)))) (fun _ _ _ _ _ => (pv 1))))), ?_⟩
    walk_at "0"
    obtain ⟨dx, v, hh, hv⟩ := hA.obj
    walk_at "g"
    refine w_tfld (w_var rfl ⟨h, _, dx, _, .ref L, rfl, hh, T.C_Hall, T.N_Hall_owners, rfl, ?_⟩)
    walk_at "g"
    refine ⟨L, _, rfl, lstOf hA.own, ?_⟩
    refine lc_idx (o := none) hA.own (by rw [hA.len]; decide) (fun i T' x H' Qb s1 hT' k => ?_) fun D H' hD s1 hD' => q D H' hD s1 hD'
    refine w_gtup (tupOf hT') rfl ?_
    walk_at "g"
    refine ⟨rfl, ?_⟩
    walk_at "g"
    rw [nm_none]
    exact k _ fun Qv hq => w_var rfl hq
theorem ok_Hall___len__ (T : Tx K mg) : OkM P w K mg base 1 "Hall" "__len__" ["self"] (spHallLen K) := by
  refine OkM.mk' T.M_Hall___len__ T.F_Hall___len__ (fun _ _ _ _ _ _ us hl => match us, hl with | [_], _ => rfl) sc_Hall___len__ (fun vs H Q E h => ?_) (fun cdv A outer s H vs Q E hr h => ?_)
  · obtain ⟨h, L, dl, os, rfl, hA, q⟩ := h
    rfl
  · obtain ⟨h, L, dl, os, rfl, hA, q⟩ := h
    refine ⟨(tRet (tCB (cLen K) (tCons (tLc (iList K (tFld K (tVar 0) "owners")) (gName 1) (tTest (tOp oIsN (tVar 1) (tC .non))) (tVar 1) [1]) tNil))), (pss_one (ps_ret (pe_callB call_len (by rfl) T.Z_len (by decide +kernel) (pa_cons (pe_lc (own := [("name", 1)]) rfl sc_Hall___len__.nd (pi_list (pe_fld (pv 0) rfl)) (blkOk_by (own := [("name", 1)]) (N := ["self", "name"]) (sc := defScope s_Hall___len__) (by decide +kernel)) (fun _ _ _ _ _ => (pg_name (i := 1) sc_Hall___len__.nd rfl (by first | exact Or.inl rfl | exact Or.inr rfl))) (fun _ _ _ _ _ => (pts_one (pt_cmpR op_isN (pv 1) pe_non (nomark _)))) (fun _ _ _ _ _ => (pv 1))) pa_nil)))), ?_⟩
    walk_at "0"
    obtain ⟨dx, v, hh, hv⟩ := hA.obj
    walk_at "g"
    refine w_tfld (w_var rfl ⟨h, _, dx, _, .ref L, rfl, hh, T.C_Hall, T.N_Hall_owners, rfl, ?_⟩)
    refine ⟨L, rfl, ⟨_, lstOf hA.own⟩, ?_⟩
    have h100 := hA.len
    refine lc_pure (walk_list (K := K) (a := L) (xs := os.map nmV)) (by rw [List.length_map]; omega) (os.map fun x => if decide (x = none) = true then [nmV x] else []) (by simp) (fun H' s => lstOf (s _ _ hA.own)) ?_ ?_
    · rintro D i acc x H' H'' hD hi hacc hH' iv ⟨rfl, hx⟩
      rw [List.getElem?_map] at hx
      obtain ⟨o, ho, rfl⟩ := Option.map_eq_some_iff.mp hx
      rw [List.length_map] at hi
      walk_at "g"
      refine ⟨rfl, ?_⟩
      walk_at "g"
      rw [nm_none]
      refine if_b (fun hb => ?_) (fun hb => ?_)
      · walk_at "g"
        refine lcp_nx hD (by omega) hacc hH' iv (Same.refl _) ?_
        rw [List.getElem?_map, ho]
        simp only [Option.map_some, hb]
        rfl
      · walk_at "g"
        refine lcp_sk hacc hH' iv (Same.refl _) ?_
        rw [List.getElem?_map, ho]
        simp only [Option.map_some, hb]
        rfl
    · intro D H' hD s1 hD'
      rw [flat_if (fun x : Option Str => decide (x = none)) nmV] at hD'
      walk_at "g"
      refine w_lenL (lstOf hD') ?_
      rw [List.length_map, ← List.countP_eq_length_filter, ← idxL_len]
      exact q _ s1
theorem ok_Hall_taken (T : Tx K mg) : OkM P w K mg base 3 "Hall" "taken" ["self", "name", "many"] (spHallTaken K) := by
  refine OkM.mk' T.M_Hall_taken T.F_Hall_taken (fun _ _ _ _ _ _ us hl => match us, hl with | [_, _, _], _ => rfl) sc_Hall_taken (fun vs H Q E h => ?_) (fun cdv A outer s H vs Q E hr h => ?_)
  · obtain ⟨h, L, dl, os, z, v, d, rfl, hA, hv, qt⟩ := h
    rfl
  · obtain ⟨h, L, dl, os, z, v, d, rfl, hA, hv, qt⟩ := h
    refine ⟨(tSeq (tDrop (tCall (spNeedMany K) [] E (tCons (tVar 2) (tCons (tC (.int 1)) (tCons (tC (.int 100)) tNil)))))
      (tSeq (tAsg (tSl (rSlL K) (tMeth (He.ga K "Hall") "free" (spHallFree K) [] E (tVar 0) tNil) tNoPart (tPart (tVar 2))) (gName 3))
      (tSeq (tIfS (tTest (tOp oLt (tCB (cLen K) (tCons (tVar 3) tNil)) (tVar 2))) (tRz K E "Full") tNext)
      (tSeq (tFor (iList K (tVar 3)) (gName 4) (tAsg (tVar 1) (gSub (tFld K (tVar 0) "owners") (tVar 4) rSetL)))
      (tRet (tVar 3)))))), (pss_cons (ps_expr (pe_f (ok_need_many T) hr (pnx (L2N.takes_of rfl rfl rfl rfl)) (pa_cons (pv 2) (pa_cons pe_int (pa_cons (pe_gi T.I_PLACES) pa_nil)))))
      (pss_cons (ps_set (i := 3) sc_Hall_taken.nd rfl (by first | exact Or.inl rfl | exact Or.inr rfl) (pe_slice sl_list (pe_m0 (ok_Hall_free T) T.C_Hall hr (pnx (L2N.takes_of rfl rfl rfl rfl)) (pv 0)) po_none (po_some (pv 2))))
      (pss_cons (ps_if (pt_cmpR op_lt (pe_callB call_len (by rfl) T.Z_len (by decide +kernel) (pa_cons (pv 3) pa_nil)) (pv 2) (nomark _)) (pss_one (ps_rz T.X_Full (L2N.takes_of rfl rfl rfl rfl))) pss_nil)
      (pss_cons (ps_for (passes_of rfl) rfl (pi_list (pv 3)) (pg_name (i := 4) sc_Hall_taken.nd rfl (by first | exact Or.inl rfl | exact Or.inr rfl)) (pss_one (ps_asg (pv 1) (pg_sub (pe_fld (pv 0) rfl) (pv 4) set_list))))
      (pss_one (ps_ret (pv 3))))))), ?_⟩
    walk_at "0"
    obtain ⟨dx, vd, hh, hvd⟩ := hA.obj
    walk_at "g"
    refine ⟨v, d, 1, 100, rfl, hv, fun hn => ?_, fun hn => qt.bad hn _ (Same.refl _)⟩
    obtain ⟨n, rfl, n1, n2⟩ := isNum_nat hn
    cases dp_int hv
    walk_at "p"
    refine w_sl (w_meth (w_var rfl ⟨h, dx, _, rfl, hh, rfl, w_nil ⟨h, L, dl, os, rfl, hA, fun F0 H1 nF0 s1 hF0 => ?_⟩⟩))
    walk_at "g"
    refine w_slLToN (k := n) (lstOf hF0) fun F H2 s2 nF hF => ?_
    rw [natsV_take] at hF
    walk_at "g"
    refine w_lenL (lstOf hF) ?_
    have el : (natsV ((idxL os none).take n)).length = min n (idxL os none).length := by
      unfold natsV
      rw [List.length_map, List.length_take]
    rw [el]
    walk_at "g"
    have s02 := s1.trans s2
    refine if_b (fun hb => ?_) (fun hb => ?_)
    · have hb := of_decide_eq_true hb
      walk_at "g"
      exact qt.full n rfl n1 (by omega) (by omega) _ s02
    · have hb := of_decide_eq_false hb
      walk_at "g"
      refine ⟨⟨_, lstOf hF⟩, ?_⟩
      have hFL : F ≠ L := fun z => by
        rw [z, s1 _ _ hA.own] at nF
        cases nF
      refine for_own (o := some z) (fun σ => ∃ x4, σ = [some (.ref h), some (.str z), some (.int (n : Nat)), some (.ref F), x4]) (hA.s s02) hF hFL ⟨_, rfl⟩ (fun i hi => idxL_lt (List.mem_of_mem_take hi)) ?_ ?_
      · rintro j i σ H' xs N ⟨x4, rfl⟩ hx hxl hi k
        obtain ⟨dx', vd', hh', hvd'⟩ := hx.obj
        walk_at "p"
        refine w_var rfl (w_sub (w_tfld (w_var rfl ⟨h, _, dx', _, .ref L, rfl, hh', T.C_Hall, T.N_Hall_owners, rfl, w_var rfl ?_⟩)))
        refine w_setL hx.own (j := i) (by rw [List.length_map]; unfold ixN; rw [if_pos (by omega), if_pos (by omega)]; simp) ?_
        rw [show V.str z = nmV (some z) from rfl, nm_set]
        exact k _ _ ⟨_, rfl⟩ Oth.refl.put upd_same
      · rintro σ H' ⟨x4, rfl⟩ ot hL' hF'
        walk_at "g"
        exact qt.good n rfl n1 (by omega) (by omega) F H' (s1.free nF) ((oth_of s02).trans ot) hL' hF'
theorem ok_Hall_come (T : Tx K mg) : OkM P w K mg base 4 "Hall" "come" ["self", "name", "many"] (spHallCome K) := by
  refine OkM.mk' T.M_Hall_come T.F_Hall_come (fun _ _ _ _ _ _ us hl => match us, hl with | [_, _, _], _ => rfl) sc_Hall_come (fun vs H Q E h => ?_) (fun cdv A outer s H vs Q E hr h => ?_)
  · obtain ⟨h, L, dl, os, vn, dn, v, d, rfl, hA, hvn, hfs, hv, q1, q2, q3⟩ := h
    rfl
  · obtain ⟨h, L, dl, os, vn, dn, v, d, rfl, hA, hvn, hfs, hv, q1, q2, q3⟩ := h
    refine ⟨(tSeq (tDrop (tCall (spNeedName K) [] E (tCons (tVar 1) tNil)))
      (tSeq (tIfS (tTest (tOp (rIn K false) (tVar 1) (tFld K (tVar 0) "owners"))) (tRz K E "Known") tNext)
      (tRet (tMeth (He.ga K "Hall") "taken" (spHallTaken K) [] E (tVar 0) (tCons (tVar 1) (tCons (tVar 2) tNil)))))), (pss_cons (ps_expr (pe_f (ok_need_name T) hr (pnx (L2N.takes_of rfl rfl rfl rfl)) (pa_cons (pv 1) pa_nil)))
      (pss_cons (ps_if (pt_cmpR op_in_seq (pv 1) (pe_fld (pv 0) rfl) (by rfl)) (pss_one (ps_rz T.X_Known (L2N.takes_of rfl rfl rfl rfl))) pss_nil)
      (pss_one (ps_ret (pe_m (ok_Hall_taken T) T.C_Hall hr (pnx (L2N.takes_of rfl rfl rfl rfl)) (pv 0) (pa_cons (pv 1) (pa_cons (pv 2) pa_nil))))))), ?_⟩
    walk_at "0"
    walk_at "g"
    refine ⟨vn, dn, rfl, hvn, hfs, fun hn H1 s1 => ?_, q1⟩
    obtain ⟨z, rfl⟩ := isName_str hn
    cases dp_str hvn
    obtain ⟨dx, vd, hh, hvd⟩ := (hA.s s1).obj
    walk_at "g"
    refine w_tfld (w_var rfl ⟨h, _, dx, _, .ref L, rfl, hh, T.C_Hall, T.N_Hall_owners, rfl, ?_⟩)
    refine w_inL (lstOf (hA.s s1).own) rfl (nm_flat os) ?_
    rw [nm_in]
    walk_at "g"
    refine if_b (fun hb => ?_) (fun hb => ?_)
    · walk_at "g"
      exact q2 z rfl hn (of_decide_eq_true hb) _ s1
    · walk_at "g"
      refine w_meth (w_var rfl ⟨h, dx, _, rfl, hh, rfl, ?_⟩)
      walk_at "g"
      exact ⟨h, L, dl, os, z, v, d, rfl, hA.s s1, dp_s s1 hv, (q3 z rfl hn (of_decide_eq_false hb)).s s1⟩
theorem ok_Hall_need_switch (T : Tx K mg) : OkM P w K mg base 2 "Hall" "need_switch" ["self", "name"] (spHallNeed K) := by
  refine OkM.mk' T.M_Hall_need_switch T.F_Hall_need_switch (fun _ _ _ _ _ _ us hl => match us, hl with | [_, _], _ => rfl) sc_Hall_need_switch (fun vs H Q E h => ?_) (fun cdv A outer s H vs Q E hr h => ?_)
  · obtain ⟨h, L, dl, os, v, d, rfl, hA, hv, hfs, q1, q2⟩ := h
    rfl
  · obtain ⟨h, L, dl, os, v, d, rfl, hA, hv, hfs, q1, q2⟩ := h
    refine ⟨(tIfS (tOr (tNot (tB (tCall (spIsName K) [] E (tCons (tVar 1) tNil)))) (tTest (tOp (rIn K true) (tVar 1) (tFld K (tVar 0) "owners")))) (tRz K E "BadName") tNext), (pss_one (ps_if (PW.pt (pw_or (pt_not (pt_val (pe_f (ok_is_name T) hr (pnx (L2N.takes_of rfl rfl rfl rfl)) (pa_cons (pv 1) pa_nil)))) (pw_or1 (pt_cmpR op_notIn_seq (pv 1) (pe_fld (pv 0) rfl) (by rfl))))) (pss_one (ps_rz T.X_BadName (L2N.takes_of rfl rfl rfl rfl))) pss_nil)), ?_⟩
    walk_at "0"
    walk_at "g"
    refine ⟨v, d, rfl, hv, hfs, fun H1 s1 => ?_⟩
    walk_at "g"
    cases hn : isName d with
    | false =>
      walk_at "g"
      exact q2 (isSw_no hn) _ s1
    | true =>
      obtain ⟨z, rfl⟩ := isName_str hn
      cases dp_str hv
      obtain ⟨dx, vd, hh, hvd⟩ := (hA.s s1).obj
      walk_at "g"
      refine w_tfld (w_var rfl ⟨h, _, dx, _, .ref L, rfl, hh, T.C_Hall, T.N_Hall_owners, rfl, ?_⟩)
      refine w_ninL (lstOf (hA.s s1).own) rfl (nm_flat os) ?_
      rw [nm_in]
      have e : isSw os (.str z) = decide (some z ∈ os) := by simp only [isSw, hn, Bool.true_and]
      rw [← e]
      walk_at "g"
      cases hs : isSw os (.str z) with
      | true =>
        walk_at "g"
        exact q1 hs _ s1
      | false =>
        walk_at "g"
        exact q2 hs _ s1
theorem ok_Hall_grow (T : Tx K mg) : OkM P w K mg base 4 "Hall" "grow" ["self", "name", "many"] (spHallGrow K) := by
  refine OkM.mk' T.M_Hall_grow T.F_Hall_grow (fun _ _ _ _ _ _ us hl => match us, hl with | [_, _, _], _ => rfl) sc_Hall_grow (fun vs H Q E h => ?_) (fun cdv A outer s H vs Q E hr h => ?_)
  · obtain ⟨h, L, dl, os, vn, dn, v, d, rfl, hA, hvn, hfs, hv, q1, q2⟩ := h
    rfl
  · obtain ⟨h, L, dl, os, vn, dn, v, d, rfl, hA, hvn, hfs, hv, q1, q2⟩ := h
    refine ⟨(tSeq (tDrop (tMeth (He.ga K "Hall") "need_switch" (spHallNeed K) [] E (tVar 0) (tCons (tVar 1) tNil)))
      (tRet (tMeth (He.ga K "Hall") "taken" (spHallTaken K) [] E (tVar 0) (tCons (tVar 1) (tCons (tVar 2) tNil))))), (pss_cons (ps_expr (pe_m (ok_Hall_need_switch T) T.C_Hall hr (pnx (L2N.takes_of rfl rfl rfl rfl)) (pv 0) (pa_cons (pv 1) pa_nil)))
      (pss_one (ps_ret (pe_m (ok_Hall_taken T) T.C_Hall hr (pnx (L2N.takes_of rfl rfl rfl rfl)) (pv 0) (pa_cons (pv 1) (pa_cons (pv 2) pa_nil)))))), ?_⟩
    walk_at "0"
    obtain ⟨dx, vd, hh, hvd⟩ := hA.obj
    walk_at "p"
    refine w_meth (w_var rfl ⟨h, dx, _, rfl, hh, rfl, ?_⟩)
    walk_at "g"
    refine ⟨h, L, dl, os, vn, dn, rfl, hA, hvn, hfs, fun hs H1 s1 => ?_, q1⟩
    obtain ⟨z, rfl, _, _⟩ := isSw_str hs
    cases dp_str hvn
    walk_at "p"
    refine w_meth (w_var rfl ⟨h, dx, _, rfl, s1 _ _ hh, rfl, ?_⟩)
    walk_at "g"
    exact ⟨h, L, dl, os, z, v, d, rfl, hA.s s1, dp_s s1 hv, (q2 z rfl hs).s s1⟩
theorem ok_Hall_held (T : Tx K mg) : OkM P w K mg base 3 "Hall" "held" ["self", "name"] (spHallHeld K) := by
  refine OkM.mk' T.M_Hall_held T.F_Hall_held (fun _ _ _ _ _ _ us hl => match us, hl with | [_, _], _ => rfl) sc_Hall_held (fun vs H Q E h => ?_) (fun cdv A outer s H vs Q E hr h => ?_)
  · obtain ⟨h, L, dl, os, v, d, rfl, hA, hv, hfs, q1, q2⟩ := h
    rfl
  · obtain ⟨h, L, dl, os, v, d, rfl, hA, hv, hfs, q1, q2⟩ := h
    refine ⟨(tSeq (tDrop (tMeth (He.ga K "Hall") "need_switch" (spHallNeed K) [] E (tVar 0) (tCons (tVar 1) tNil)))
      (tRet (tLc (iEnum K (tCons (tFld K (tVar 0) "owners") tNil)) (gTup K 2 (gCons (gName 2) (gCons (gName 3) gNil))) (tTest (tOp rEq (tVar 3) (tVar 1))) (tVar 2) [2, 3]))), (pss_cons (ps_expr (pe_m (ok_Hall_need_switch T) T.C_Hall hr (pnx (L2N.takes_of rfl rfl rfl rfl)) (pv 0) (pa_cons (pv 1) pa_nil)))
      (pss_one (ps_ret (pe_lc (own := [("at", 2), ("own", 3)]) rfl sc_Hall_held.nd (pi_enum (by rfl) T.Z_enumerate (pa_cons (pe_fld (pv 0) rfl) pa_nil)) (blkOk_by (own := [("at", 2), ("own", 3)]) (N := ["self", "name", "at", "own"]) (sc := defScope s_Hall_held) (by decide +kernel)) (fun _ _ _ _ _ => (pg_tup (by rfl) (pgs_cons (pg_name (i := 2) sc_Hall_held.nd rfl (by first | exact Or.inl rfl | exact Or.inr rfl)) (pgs_cons (pg_name (i := 3) sc_Hall_held.nd rfl (by first | exact Or.inl rfl | exact Or.inr rfl)) pgs_nil)))) (fun _ _ _ _ _ => (pts_one (pt_cmpR op_eq (pv 3) (pv 1) (nomark _)))) (fun _ _ _ _ _ => (pv 2)))))), ?_⟩
    walk_at "0"
    obtain ⟨dx, vd, hh, hvd⟩ := hA.obj
    walk_at "p"
    refine w_meth (w_var rfl ⟨h, dx, _, rfl, hh, rfl, ?_⟩)
    walk_at "g"
    refine ⟨h, L, dl, os, v, d, rfl, hA, hv, hfs, fun hs H1 s1 => ?_, q2⟩
    obtain ⟨z, rfl, _, _⟩ := isSw_str hs
    cases dp_str hv
    walk_at "g"
    refine w_tfld (w_var rfl ⟨h, _, dx, _, .ref L, rfl, s1 _ _ hh, T.C_Hall, T.N_Hall_owners, rfl, ?_⟩)
    walk_at "g"
    refine ⟨L, _, rfl, lstOf (hA.s s1).own, ?_⟩
    refine lc_idx (o := some z) (hA.s s1).own (by rw [hA.len]; decide) (fun i T' x H' Qb s2 hT' k => ?_) fun D H' hD s2 hD' => q1 z rfl hs D H' (s1.free hD) (s1.trans s2) hD'
    refine w_gtup (tupOf hT') rfl ?_
    walk_at "g"
    refine ⟨rfl, ?_⟩
    walk_at "g"
    refine w_eq (nm_scal x z) ?_
    rw [nm_some]
    walk_at "g"
    exact k _ fun Qv hq => w_var rfl hq
theorem ok_Hall_shrink (T : Tx K mg) : OkM P w K mg base 4 "Hall" "shrink" ["self", "name", "many"] (spHallShrink K) := by
  refine OkM.mk' T.M_Hall_shrink T.F_Hall_shrink (fun _ _ _ _ _ _ us hl => match us, hl with | [_, _, _], _ => rfl) sc_Hall_shrink (fun vs H Q E h => ?_) (fun cdv A outer s H vs Q E hr h => ?_)
  · obtain ⟨h, L, dl, os, vn, dn, v, d, rfl, hA, hvn, hfs, hv, q1, q2, q3⟩ := h
    rfl
  · obtain ⟨h, L, dl, os, vn, dn, v, d, rfl, hA, hvn, hfs, hv, q1, q2, q3⟩ := h
    refine ⟨(tSeq (tAsg (tMeth (He.ga K "Hall") "held" (spHallHeld K) [] E (tVar 0) (tCons (tVar 1) tNil)) (gName 3))
      (tSeq (tDrop (tCall (spNeedMany K) [] E (tCons (tVar 2) (tCons (tC (.int 1)) (tCons (tCB (cLen K) (tCons (tVar 3) tNil)) tNil)))))
      (tSeq (tAsg (tSl (rSlL K) (tVar 3) (tPart (tOp oSub (tCB (cLen K) (tCons (tVar 3) tNil)) (tVar 2))) tNoPart) (gName 4))
      (tSeq (tFor (iList K (tVar 4)) (gName 5) (tAsg (tC .non) (gSub (tFld K (tVar 0) "owners") (tVar 5) rSetL)))
      (tRet (tVar 4)))))), (pss_cons (ps_set (i := 3) sc_Hall_shrink.nd rfl (by first | exact Or.inl rfl | exact Or.inr rfl) (pe_m (ok_Hall_held T) T.C_Hall hr (pnx (L2N.takes_of rfl rfl rfl rfl)) (pv 0) (pa_cons (pv 1) pa_nil)))
      (pss_cons (ps_expr (pe_f (ok_need_many T) hr (pnx (L2N.takes_of rfl rfl rfl rfl)) (pa_cons (pv 2) (pa_cons pe_int (pa_cons (pe_callB call_len (by rfl) T.Z_len (by decide +kernel) (pa_cons (pv 3) pa_nil)) pa_nil)))))
      (pss_cons (ps_set (i := 4) sc_Hall_shrink.nd rfl (by first | exact Or.inl rfl | exact Or.inr rfl) (pe_slice sl_list (pv 3) (po_some (pe_op op_sub (pe_callB call_len (by rfl) T.Z_len (by decide +kernel) (pa_cons (pv 3) pa_nil)) (pv 2))) po_none))
      (pss_cons (ps_for (passes_of rfl) rfl (pi_list (pv 4)) (pg_name (i := 5) sc_Hall_shrink.nd rfl (by first | exact Or.inl rfl | exact Or.inr rfl)) (pss_one (ps_asg pe_non (pg_sub (pe_fld (pv 0) rfl) (pv 5) set_list))))
      (pss_one (ps_ret (pv 4))))))), ?_⟩
    walk_at "0"
    obtain ⟨dx, vd, hh, hvd⟩ := hA.obj
    walk_at "p"
    refine w_meth (w_var rfl ⟨h, dx, _, rfl, hh, rfl, ?_⟩)
    walk_at "g"
    refine ⟨h, L, dl, os, vn, dn, rfl, hA, hvn, hfs, fun z ez hs F0 H1 nF0 s1 hF0 => ?_, q1⟩
    subst ez
    cases dp_str hvn
    have el : (natsV (idxL os (some z))).length = (idxL os (some z)).length := by unfold natsV; rw [List.length_map]
    walk_at "g"
    refine w_lenL (lstOf hF0) ?_
    rw [el]
    walk_at "g"
    refine ⟨v, d, 1, _, rfl, dp_s s1 hv, fun hn => ?_, fun hn => q2 z rfl hs hn _ s1⟩
    obtain ⟨n, rfl, n1, n2⟩ := isNum_nat hn
    cases dp_int hv
    walk_at "g"
    refine w_lenL (lstOf hF0) ?_
    rw [el]
    walk_at "g"
    have esub : ((idxL os (some z)).length : Int) - (n : Int) = (((idxL os (some z)).length - n : Nat) : Int) := by omega
    rw [esub]
    refine w_slLFrom (lstOf hF0) fun F H2 s2 nF hF => ?_
    rw [natsV_drop] at hF
    have s02 := s1.trans s2
    walk_at "g"
    refine ⟨⟨_, lstOf hF⟩, ?_⟩
    have hFL : F ≠ L := fun e => by
      rw [e, s1 _ _ hA.own] at nF
      cases nF
    refine for_own (o := none) (fun σ => ∃ x5, σ = [some (.ref h), some (.str z), some (.int (n : Nat)), some (.ref F0), some (.ref F), x5]) (hA.s s02) hF hFL ⟨_, rfl⟩ (fun i hi => idxL_lt (List.mem_of_mem_drop hi)) ?_ ?_
    · rintro j i σ H' xs N ⟨x5, rfl⟩ hx hxl hi k
      obtain ⟨dx', vd', hh', hvd'⟩ := hx.obj
      walk_at "p"
      refine w_c (w_sub (w_tfld (w_var rfl ⟨h, _, dx', _, .ref L, rfl, hh', T.C_Hall, T.N_Hall_owners, rfl, w_var rfl ?_⟩)))
      refine w_setL hx.own (j := i) (by rw [List.length_map]; unfold ixN; rw [if_pos (by omega), if_pos (by omega)]; simp) ?_
      rw [show V.non = nmV none from rfl, nm_set]
      exact k _ _ ⟨_, rfl⟩ Oth.refl.put upd_same
    · rintro σ H' ⟨x5, rfl⟩ ot hL' hF'
      walk_at "g"
      exact q3 z n rfl hs rfl n1 (by omega) F H' (s1.free nF) ((oth_of s02).trans ot) hL' hF'
theorem ok_Hall_owner (T : Tx K mg) : OkM P w K mg base 3 "Hall" "owner" ["self", "at"] (spHallOwner K) := by
  refine OkM.mk' T.M_Hall_owner T.F_Hall_owner (fun _ _ _ _ _ _ us hl => match us, hl with | [_, _], _ => rfl) sc_Hall_owner (fun vs H Q E h => ?_) (fun cdv A outer s H vs Q E hr h => ?_)
  · obtain ⟨h, L, dl, os, v, d, rfl, hA, hv, q1, q2⟩ := h
    rfl
  · obtain ⟨h, L, dl, os, v, d, rfl, hA, hv, q1, q2⟩ := h
    refine ⟨(tSeq (tDrop (tCall (spNeedMany K) [] E (tCons (tVar 1) (tCons (tC (.int 0)) (tCons (tOp oSub (tC (.int 100)) (tC (.int 1))) tNil)))))
      (tRet (tOp (rIxL K) (tFld K (tVar 0) "owners") (tVar 1)))), (pss_cons (ps_expr (pe_f (ok_need_many T) hr (pnx (L2N.takes_of rfl rfl rfl rfl)) (pa_cons (pv 1) (pa_cons pe_int (pa_cons (pe_op op_sub (pe_gi T.I_PLACES) pe_int) pa_nil)))))
      (pss_one (ps_ret (pe_ix ix_list (pe_fld (pv 0) rfl) (pv 1) (fun _ _ => rfl))))), ?_⟩
    walk_at "0"
    obtain ⟨dx, vd, hh, hvd⟩ := hA.obj
    have h100 := hA.len
    walk_at "g"
    refine ⟨v, d, 0, _, rfl, hv, fun hn => ?_, q2⟩
    obtain ⟨i, rfl, i0, i1⟩ := isNum_int hn
    obtain ⟨n, rfl⟩ := Int.eq_ofNat_of_zero_le i0
    cases dp_int hv
    walk_at "g"
    refine w_tfld (w_var rfl ⟨h, _, dx, _, .ref L, rfl, hh, T.C_Hall, T.N_Hall_owners, rfl, ?_⟩)
    walk_at "g"
    exact w_ixL (lstOf hA.own) (at_of (j := n) rfl (at_own (by omega))) (q1 n rfl (by omega))
theorem ok_Hall_of (T : Tx K mg) : OkM P w K mg base 4 "Hall" "of" ["self", "user"] (spHallOf K) := by
  refine OkM.mk' T.M_Hall_of T.F_Hall_of (fun _ _ _ _ _ _ us hl => match us, hl with | [_, _], _ => rfl) sc_Hall_of (fun vs H Q E h => ?_) (fun cdv A outer s H vs Q E hr h => ?_)
  · obtain ⟨h, L, dl, os, v, d, rfl, hA, hv, q1, q2⟩ := h
    rfl
  · obtain ⟨h, L, dl, os, v, d, rfl, hA, hv, q1, q2⟩ := h
    refine ⟨(tRet (tOp (rIxL K) (tFld K (tVar 0) "owners") (tCall (spPlace K) [] E (tCons (tVar 1) (tCons (tFld K (tVar 0) "deal") tNil))))), (pss_one (ps_ret (pe_ix ix_list (pe_fld (pv 0) rfl) (pe_f (ok_place T) hr (pnx (L2N.takes_of rfl rfl rfl rfl)) (pa_cons (pv 1) (pa_cons (pe_fld (pv 0) rfl) pa_nil))) (fun _ _ => rfl)))), ?_⟩
    walk_at "0"
    obtain ⟨dx, vd, hh, hvd⟩ := hA.obj
    have h100 := hA.len
    walk_at "g"
    refine w_tfld (w_var rfl ⟨h, _, dx, _, .ref L, rfl, hh, T.C_Hall, T.N_Hall_owners, rfl, ?_⟩)
    walk_at "g"
    refine w_tfld (w_var rfl ⟨h, _, dx, _, vd, rfl, hh, T.C_Hall, T.N_Hall_deal, rfl, ?_⟩)
    walk_at "g"
    refine ⟨v, vd, d, dl, rfl, hv, hvd, fun hu _ => ?_, q2, fun _ z => absurd hA.deal (by rw [z]; simp)⟩
    have hb := placeD_bd hu hA.deal
    refine w_ixL (lstOf hA.own) (at_of (j := (placeD d dl).toNat) (by omega) (at_own (by omega))) (q1 hu)
theorem ok_Hall_names (T : Tx K mg) : OkM P w K mg base 1 "Hall" "names" ["self"] (spHallNames K) := by
  refine OkM.mk' T.M_Hall_names T.F_Hall_names (fun _ _ _ _ _ _ us hl => match us, hl with | [_], _ => rfl) sc_Hall_names (fun vs H Q E h => ?_) (fun cdv A outer s H vs Q E hr h => ?_)
  · obtain ⟨h, L, dl, os, Ls, rfl, hA, hLs, h64, q⟩ := h
    rfl
  · obtain ⟨h, L, dl, os, Ls, rfl, hA, hLs, h64, q⟩ := h
    refine ⟨(tRet (tCB (rSortS w) (tCons (tCB (rSetS K w) (tCons (tLc (iList K (tFld K (tVar 0) "owners")) (gName 1) (tTest (tOp oNotN (tVar 1) (tC .non))) (tVar 1) [1]) tNil)) tNil))), (pss_one (ps_ret (pe_callB (cr_sortS rfl) (by rfl) T.Z_sorted (by decide +kernel) (pa_cons (pe_callTy (cr_setS rfl) (by rfl) T.Z_set (by decide +kernel) (pa_cons (pe_lc (own := [("name", 1)]) rfl sc_Hall_names.nd (pi_list (pe_fld (pv 0) rfl)) (blkOk_by (own := [("name", 1)]) (N := ["self", "name"]) (sc := defScope s_Hall_names) (by decide +kernel)) (fun _ _ _ _ _ => (pg_name (i := 1) sc_Hall_names.nd rfl (by first | exact Or.inl rfl | exact Or.inr rfl))) (fun _ _ _ _ _ => (pts_one (pt_cmpR op_notN (pv 1) pe_non (nomark _)))) (fun _ _ _ _ _ => (pv 1))) pa_nil)) pa_nil)))), ?_⟩
    walk_at "0"
    obtain ⟨dx, vd, hh, hvd⟩ := hA.obj
    have h100 := hA.len
    walk_at "g"
    refine w_tfld (w_var rfl ⟨h, _, dx, _, .ref L, rfl, hh, T.C_Hall, T.N_Hall_owners, rfl, ?_⟩)
    refine ⟨L, rfl, ⟨_, lstOf hA.own⟩, ?_⟩
    refine lc_names hA.own (by omega) (fun _ => rfl) (fun _ => rfl) fun D H1 nD s1 hD => ?_
    refine w_nil (w_sortNames hD (by omega) hLs h64 (fun _ _ hx => w_nil hx) fun ys F H2 nF s2 hs hnd hmem hF => ?_)
    exact q ys F H2 (s1.free nF) (s1.trans s2) hs hnd hmem hF
theorem ok__law_cell (T : Tx K mg) : Ok P w K mg base 1 "_law_cell" ["script", "k"] (spCell K) := by
  refine Ok.mk' T.G__law_cell T.F__law_cell (fun _ _ _ _ _ _ us hl => match us, hl with | [_, _], _ => rfl) sc__law_cell (fun vs H Q E h => ?_) (fun cdv A outer s H vs Q E hr h => ?_)
  · obtain ⟨a, k, ns, rfl, hS, hl, hk, hk2, q⟩ := h
    rfl
  · obtain ⟨a, k, ns, rfl, hS, hl, hk, hk2, q⟩ := h
    refine ⟨(tSeq (tIfS (tTest (tOp (rEqD K) (tVar 0) (tLst tNil))) (tRet (tOp oMul (tVar 1) (tC (.int 7919)))) tNext)
      (tRet (tOp oAdd (tOp (rIxL K) (tVar 0) (tOp oMod (tVar 1) (tCB (cLen K) (tCons (tVar 0) tNil)))) (tOp oMul (tOp oDiv (tVar 1) (tCB (cLen K) (tCons (tVar 0) tNil))) (tC (.int 104729)))))), (pss_cons (ps_if (pt_cmpR (op_eqD hr.units) (pv 0) (pe_lst pa_nil) (nomark _)) (pss_one (ps_ret (pe_op op_mul (pv 1) pe_int))) pss_nil)
      (pss_one (ps_ret (pe_op op_add (pe_ix ix_list (pv 0) (pe_op op_mod (pv 1) (pe_callB call_len (by rfl) T.Z_len (by decide +kernel) (pa_cons (pv 0) pa_nil))) (fun _ _ => rfl)) (pe_op op_mul (pe_op op_fdivW (pv 1) (pe_callB call_len (by rfl) T.Z_len (by decide +kernel) (pa_cons (pv 0) pa_nil))) pe_int))))), ?_⟩
    walk_at "0"
    walk_at "g"
    refine ⟨Nat.zero_le _, fun p np => ?_⟩
    have s1 : Same H (upd H p (.lst [])) := Same.new np
    refine w_eqD (dp_ints (s1.seq hS)) (.lst (lstOf upd_same) .nil) (shaped_ints ns) (by rfl) ?_
    walk_at "g"
    refine if_b (fun h => ?_) (fun h => ?_)
    · walk_at "g"
      refine w_I (.inr ⟨by decide, by decide⟩) ?_
      exact q _ _ s1
    · have hn : 0 < ns.length := by
        cases ns with
        | nil => simp [PyData.eqv, PyData.eqvAll] at h
        | cons x r => simp
      walk_at "g"
      refine w_lenL (s1.seq hS) ?_
      simp only [List.length_map]
      refine w_I (by omega) ?_
      obtain ⟨z, hz⟩ := atI_ints (ns := ns) (j := k % (ns.length : Nat)) (Int.emod_nonneg _ (by omega)) (Int.emod_lt_of_pos _ (by omega))
      refine w_ixL (s1.seq hS) hz ?_
      walk_at "g"
      refine w_lenL (s1.seq hS) ?_
      simp only [List.length_map]
      refine w_I (divW (by omega) (by omega)) ?_
      walk_at "g"
      refine w_I (.inr ⟨by decide, by decide⟩) ?_
      walk_at "g"
      exact q _ _ s1
theorem ok__law_drawn (T : Tx K mg) : Ok P w K mg base 1 "_law_drawn" ["cell", "k"] (spDrawn) := by
  refine Ok.mk' T.G__law_drawn T.F__law_drawn (fun _ _ _ _ _ _ us hl => match us, hl with | [_, _], _ => rfl) sc__law_drawn (fun vs H Q E h => ?_) (fun cdv A outer s H vs Q E hr h => ?_)
  · obtain ⟨c, k, rfl, q⟩ := h
    rfl
  · obtain ⟨c, k, rfl, q⟩ := h
    refine ⟨(tSeq (tAsg (tOp oMod (tOp oAdd (tOp oMul (tVar 0) (tC (.int 6364136223846793005))) (tOp oMul (tOp oAdd (tVar 1) (tC (.int 1))) (tC (.int 1442695040888963407)))) (tC (.int 340282366920938463463374607431768211507))) (gName 2))
      (tSeq (tAsg (tOp oMod (tOp oMulW (tVar 2) (tVar 2)) (tC (.int 340282366920938463463374607431768211297))) (gName 2))
      (tSeq (tAsg (tOp oMulW (tOp oMulW (tOp oAdd (tOp oMod (tVar 2) (tC (.int 18446744073709551557))) (tC (.int 1))) (tOp oAdd (tOp oDiv (tVar 2) (tC (.int 18446744073709551557))) (tC (.int 1)))) (tVar 2)) (gName 2))
      (tRet (tOp oMod (tVar 2) (tC (.int 340282366920938463463374607431768211507))))))), (pss_cons (ps_set (i := 2) sc__law_drawn.nd rfl (by first | exact Or.inl rfl | exact Or.inr rfl) (pe_op op_mod (pe_op op_add (pe_op op_mul (pv 0) pe_int) (pe_op op_mul (pe_op op_add (pv 1) pe_int) pe_int)) pe_int))
      (pss_cons (ps_set (i := 2) sc__law_drawn.nd rfl (by first | exact Or.inl rfl | exact Or.inr rfl) (pe_op op_mod (pe_op op_mulW (pv 2) (pv 2)) pe_int))
      (pss_cons (ps_set (i := 2) sc__law_drawn.nd rfl (by first | exact Or.inl rfl | exact Or.inr rfl) (pe_op op_mulW (pe_op op_mulW (pe_op op_add (pe_op op_mod (pv 2) pe_int) pe_int) (pe_op op_add (pe_op op_fdivW (pv 2) pe_int) pe_int)) (pv 2)))
      (pss_one (ps_ret (pe_op op_mod (pv 2) pe_int)))))), ?_⟩
    walk_at "0"
    walk_at "g"
    refine w_I (.inr ⟨by decide, by decide⟩) ?_
    walk_at "g"
    refine w_I (.inr ⟨by decide, by decide⟩) ?_
    walk_at "g"
    refine w_I (by decide) ?_
    generalize hm : (c * 6364136223846793005 + (k + 1) * 1442695040888963407) % 340282366920938463463374607431768211507 = m
    have m0 : 0 ≤ m := by
      rw [← hm]
      exact Int.emod_nonneg _ (by decide)
    have m1 : m < 340282366920938463463374607431768211507 := by
      rw [← hm]
      exact Int.emod_lt_of_pos _ (by decide)
    walk_at "g"
    refine w_I (mulW m0 (by omega) m0 (by omega)) ?_
    walk_at "g"
    refine w_I (by decide) ?_
    generalize hn : m * m % 340282366920938463463374607431768211297 = n
    have n0 : 0 ≤ n := by
      rw [← hn]
      exact Int.emod_nonneg _ (by decide)
    have n1 : n < 340282366920938463463374607431768211297 := by
      rw [← hn]
      exact Int.emod_lt_of_pos _ (by decide)
    walk_at "g"
    refine w_I (by decide) ?_
    generalize ha : n % 18446744073709551557 = a
    have a0 : 0 ≤ a := by
      rw [← ha]
      exact Int.emod_nonneg _ (by decide)
    have a1 : a < 18446744073709551557 := by
      rw [← ha]
      exact Int.emod_lt_of_pos _ (by decide)
    walk_at "g"
    refine w_I (divW (by decide) (by decide)) ?_
    generalize hb : n / 18446744073709551557 = b
    have b0 : 0 ≤ b := by
      rw [← hb]
      exact Int.ediv_nonneg n0 (by decide)
    have b1 : b ≤ n := by
      rw [← hb]
      exact Int.ediv_le_self _ n0
    walk_at "g"
    refine w_I (mulW (by omega) (by omega) (by omega) (by omega)) ?_
    have c1 : 0 ≤ (a + 1) * (b + 1) := Int.mul_nonneg (by omega) (by omega)
    have c2 : (a + 1) * (b + 1) ≤ 18446744073709551557 * 340282366920938463463374607431768211297 := Int.mul_le_mul (by omega) (by omega) (by omega) (by decide)
    generalize (a + 1) * (b + 1) = c' at c1 c2
    walk_at "g"
    refine w_I (mulW c1 (by omega) (by omega) (by omega)) ?_
    walk_at "g"
    refine w_I (by decide) ?_
    exact q _ (Int.emod_nonneg _ (by decide))
theorem ok__law_roll (T : Tx K mg) : Ok P w K mg base 2 "_law_roll" ["dice", "many"] (spRoll) := by
  refine Ok.mk' T.G__law_roll T.F__law_roll (fun _ _ _ _ _ _ us hl => match us, hl with | [_, _], _ => rfl) sc__law_roll (fun vs H Q E h => ?_) (fun cdv A outer s H vs Q E hr h => ?_)
  · obtain ⟨a, m, rfl, hd, m0, m1, q⟩ := h
    rfl
  · obtain ⟨a, m, rfl, hd, m0, m1, q⟩ := h
    refine ⟨(tSeq (tIfS (tTest (tOp oGe (tOp (rIxL K) (tVar 0) (tC (.int 0))) (tOp oPow (tC (.int 10)) (tC (.int 18))))) (tSeq (tAsg (tOp oMod (tOp (rIxL K) (tVar 0) (tC (.int 0))) (tVar 1)) (gName 2))
      (tSeq (tAsg (tOp oDiv (tOp (rIxL K) (tVar 0) (tC (.int 0))) (tVar 1)) (gSub (tVar 0) (tC (.int 0)) rSetL))
      (tRet (tVar 2)))) tNext)
      (tSeq (tAsg (tOp oAdd (tOp (rIxL K) (tVar 0) (tC (.int 1))) (tC (.int 1))) (gSub (tVar 0) (tC (.int 1)) rSetL))
      (tRet (tOp oMod (tOp oDiv (tCall (spDrawn) [] E (tCons (tOp (rIxL K) (tVar 0) (tC (.int 0))) (tCons (tOp (rIxL K) (tVar 0) (tC (.int 1))) tNil))) (tC (.int 8))) (tVar 1))))), (pss_cons (ps_if (pt_cmpR op_ge (pe_ix ix_list (pv 0) pe_int (fun _ _ => rfl)) (pe_op op_pow pe_int pe_int) (nomark _)) (pss_cons (ps_set (i := 2) sc__law_roll.nd rfl (by first | exact Or.inl rfl | exact Or.inr rfl) (pe_op op_mod (pe_ix ix_list (pv 0) pe_int (fun _ _ => rfl)) (pv 1)))
      (pss_cons (ps_asg (pe_op op_fdivW (pe_ix ix_list (pv 0) pe_int (fun _ _ => rfl)) (pv 1)) (pg_sub (pv 0) pe_int set_list))
      (pss_one (ps_ret (pv 2))))) pss_nil)
      (pss_cons (ps_asg (pe_op op_add (pe_ix ix_list (pv 0) pe_int (fun _ _ => rfl)) pe_int) (pg_sub (pv 0) pe_int set_list))
      (pss_one (ps_ret (pe_op op_mod (pe_op op_fdivW (pe_f (ok__law_drawn T) hr (pnx (L2N.takes_of rfl rfl rfl rfl)) (pa_cons (pe_ix ix_list (pv 0) pe_int (fun _ _ => rfl)) (pa_cons (pe_ix ix_list (pv 0) pe_int (fun _ _ => rfl)) pa_nil))) pe_int) (pv 1)))))), ?_⟩
    walk_at "0"
    obtain ⟨x, k, hx⟩ := hd
    have hd : Dice H a := ⟨x, k, hx⟩
    walk_at "g"
    refine w_ixL (lstOf hx) (v := .int x) rfl ?_
    walk_at "g"
    refine w_I ⟨by decide, by decide, by decide⟩ ?_
    walk_at "g"
    refine if_b (fun h => ?_) (fun h => ?_)
    · walk_at "g"
      refine w_ixL (lstOf hx) (v := .int x) rfl ?_
      walk_at "g"
      refine w_I m0 ?_
      walk_at "g"
      refine w_ixL (lstOf hx) (v := .int x) rfl ?_
      walk_at "g"
      refine w_I (divW m0 m1) ?_
      walk_at "g"
      refine w_setL hx (j := 0) rfl ?_
      walk_at "g"
      exact q _ _ (Int.emod_nonneg _ (by omega)) (Int.emod_lt_of_pos _ m0) (But.put hd)
    · walk_at "g"
      refine w_ixL (lstOf hx) (v := .int k) rfl ?_
      walk_at "g"
      refine w_setL hx (j := 1) rfl ?_
      walk_at "g"
      have h2 : upd H a (.lst [.int x, .int (k + 1)]) a = some (.lst [.int x, .int (k + 1)]) := upd_same
      refine w_ixL (lstOf h2) (v := .int x) rfl ?_
      walk_at "g"
      refine w_ixL (lstOf h2) (v := .int (k + 1)) rfl ?_
      walk_at "g"
      refine ⟨x, k + 1, rfl, fun z hz => ?_⟩
      walk_at "g"
      refine w_I (divW (by decide) (by decide)) ?_
      walk_at "g"
      refine w_I m0 ?_
      exact q _ _ (Int.emod_nonneg _ (by omega)) (Int.emod_lt_of_pos _ m0) (But.put hd)
theorem ok__law_rounds (T : Tx K mg) : Ok P w K mg base 2 "_law_rounds" ["script", "most"] (spRounds K) := by
  refine Ok.mk' T.G__law_rounds T.F__law_rounds (fun _ _ _ _ _ _ us hl => match us, hl with | [_, _], _ => rfl) sc__law_rounds (fun vs H Q E h => ?_) (fun cdv A outer s H vs Q E hr h => ?_)
  · obtain ⟨a, m, ns, rfl, hS, hl, m0, m1, q⟩ := h
    rfl
  · obtain ⟨a, m, ns, rfl, hS, hl, m0, m1, q⟩ := h
    refine ⟨(tRet (tLc (iRng1 (tCons (tCB cMax2 (tCons (tC (.int 1)) (tCons (tCB cMin2 (tCons (tVar 1) (tCons (tCB (cLen K) (tCons (tVar 0) tNil)) tNil))) tNil))) tNil)) (gName 2) tYes (tLst (tCons (tCall (spCell K) [] E0 (tCons (tVar 0) (tCons (tVar 2) tNil))) (tCons (tC (.int 0)) tNil))) [2])), (pss_one (ps_ret (pe_lc (own := [("k", 2)]) rfl sc__law_rounds.nd (pi_range1 (by rfl) T.Z_range (pa_cons (pe_callB (call_max2 rfl) (by rfl) T.Z_max (by decide +kernel) (pa_cons pe_int (pa_cons (pe_callB (call_min2 rfl) (by rfl) T.Z_min (by decide +kernel) (pa_cons (pv 1) (pa_cons (pe_callB call_len (by rfl) T.Z_len (by decide +kernel) (pa_cons (pv 0) pa_nil)) pa_nil))) pa_nil))) pa_nil)) (blkOk_by (own := [("k", 2)]) (N := ["script", "most", "k"]) (sc := defScope s__law_rounds) (by decide +kernel)) (fun _ _ _ _ _ => (pg_name (i := 2) sc__law_rounds.nd rfl (by first | exact Or.inl rfl | exact Or.inr rfl))) (fun _ _ _ _ _ => pts_nil) (fun _ _ _ _ _ => (pe_lst (pa_cons (pe_f (ok__law_cell T) hr pn0 (pa_cons (pv 0) (pa_cons (pv 2) pa_nil))) (pa_cons pe_int pa_nil))))))), ?_⟩
    walk_at "0"
    walk_at "g"
    refine w_lenL hS ?_
    simp only [List.length_map]
    walk_at "g"
    generalize hj : (if (if (ns.length : Int) < m then (ns.length : Int) else m) > 1 then (if (ns.length : Int) < m then (ns.length : Int) else m) else 1) = j
    have j0 : 1 ≤ j := by
      rw [← hj]
      split <;> omega
    have j1 : j ≤ 10 := by
      rw [← hj]
      split
      · split <;> omega
      · omega
    refine ⟨by omega, by omega, ?_⟩
    refine lc_go walk_range (by omega) (fun D i acc H' => Same H H' ∧ ∃ ds : List Addr, acc = ds.map V.ref ∧ ∀ d ∈ ds, H d = none ∧ d ≠ D ∧ Dice H' d) (fun D hD => ⟨Same.new hD, [], rfl, fun _ h => by cases h⟩) (fun _ _ _ _ _ _ _ => trivial) ?_ ?_
    · rintro D i acc x H' H'' hD hi hacc hH' ⟨sm, ds, rfl, hds⟩ ⟨rfl, rfl⟩
      walk_at "g"
      refine ⟨rfl, ?_⟩
      walk_at "g"
      refine ⟨_, _, ns, rfl, sm.seq hS, hl, by omega, by omega, fun z H2 s2 => ?_⟩
      walk_at "g"
      refine ⟨sz (by simp), fun p np => ?_⟩
      have s3 : Same H2 (upd H2 p (.lst [.int z, .int 0])) := Same.new np
      have hD3 := s3 _ _ (s2 _ _ hH')
      have npD : p ≠ D := (ne_of_none (s2 _ _ hH') np).symm
      have s5 : ∀ b o, H b = some o → upd (upd H2 p (.lst [.int z, .int 0])) D (.lst (ds.map V.ref ++ [.ref p])) b = some o := fun b o e => by
        rw [upd_ne (ne_of_none e hD)]
        exact s3 _ _ (s2 _ _ (sm _ _ e))
      refine lc_nx (by omega) hacc hD3 ⟨s5, ds ++ [p], by simp, fun d hd => ?_⟩
      rcases List.mem_append.mp hd with hd | hd
      · obtain ⟨e1, e2, e3⟩ := hds d hd
        obtain ⟨x, k, e3⟩ := e3
        exact ⟨e1, e2, x, k, by rw [upd_ne e2]; exact s3 _ _ (s2 _ _ e3)⟩
      · cases List.mem_singleton.mp hd
        exact ⟨sm.free (s2.free np), npD, z, 0, by rw [upd_ne npD]; exact upd_same⟩
    · rintro D acc H' hD hH' hl' ⟨sm, ds, rfl, hds⟩
      exact q D ds H' sm hH' hds hD
theorem word_ok (T : Tx K mg) : ∃ fd, FnW P w K mg base 1 (He.ga K "_law_word") fd ["e"] (spWord K) ∧ BindsE fd ["e"] ∧ PySem.W.keepIn K (.ref (He.ga K "_law_word")) = true := by
  obtain ⟨fd, F⟩ := T.F__law_word
  refine ⟨fd, fnW_of F sc__law_word (fun p vs H Q E h => ?_) (fun cdv A outer s H vs Q E p hot1 hr h => ?_), F.bindsA (fun _ _ _ _ _ _ us hl => match us, hl with | [_], _ => rfl), F.kp⟩
  · obtain ⟨rfl, _⟩ := h
    rfl
  · obtain ⟨rfl, c, d, hc, hz, hf, hd, q⟩ := h
    have hC := T.W.exc c hc
    have hk := T.W.kit c hc
    have hot : L2H.HotC (L2H.cxH (CXN P w) P w K mg base ["e", "flags", "words", "flag"] "_law_word" (defScope s__law_word) (He.ga K "_law_word") cdv A outer s H E p) := ⟨p, hot1, List.mem_singleton.mpr rfl⟩
    refine ⟨(tSeq (tAsg (tLst (tCons (tCB (rIsP K (He.ga K c) p.1 d) (tCons (tVar 0) (tCons (tC (.ref (He.ga K "BadUser"))) tNil))) (tCons (tCB (rIsP K (He.ga K c) p.1 d) (tCons (tVar 0) (tCons (tC (.ref (He.ga K "BadDeal"))) tNil))) (tCons (tCB (rIsP K (He.ga K c) p.1 d) (tCons (tVar 0) (tCons (tC (.ref (He.ga K "BadCondition"))) tNil))) (tCons (tCB (rIsP K (He.ga K c) p.1 d) (tCons (tVar 0) (tCons (tC (.ref (He.ga K "BadRules"))) tNil))) tNil))))) (gName 1))
      (tSeq (tAsg (tOp rCat (tVar 1) (tLst (tCons (tCB (rIsP K (He.ga K c) p.1 d) (tCons (tVar 0) (tCons (tC (.ref (He.ga K "BadName"))) tNil))) (tCons (tCB (rIsP K (He.ga K c) p.1 d) (tCons (tVar 0) (tCons (tC (.ref (He.ga K "BadNumber"))) tNil))) (tCons (tCB (rIsP K (He.ga K c) p.1 d) (tCons (tVar 0) (tCons (tC (.ref (He.ga K "Known"))) tNil))) (tCons (tCB (rIsP K (He.ga K c) p.1 d) (tCons (tVar 0) (tCons (tC (.ref (He.ga K "Needed"))) tNil))) tNil)))))) (gName 1))
      (tSeq (tAsg (tOp rCat (tVar 1) (tLst (tCons (tCB (rIsP K (He.ga K c) p.1 d) (tCons (tVar 0) (tCons (tC (.ref (He.ga K "Ring"))) tNil))) (tCons (tCB (rIsP K (He.ga K c) p.1 d) (tCons (tVar 0) (tCons (tC (.ref (He.ga K "Full"))) tNil))) (tCons (tCB (rIsP K (He.ga K c) p.1 d) (tCons (tVar 0) (tCons (tC (.ref (He.ga K "BadDay"))) tNil))) (tCons (tCB (rIsP K (He.ga K c) p.1 d) (tCons (tVar 0) (tCons (tC (.ref (He.ga K "Nothing"))) tNil))) tNil)))))) (gName 1))
      (tSeq (tDrop (tBM K "list" rAppend (tVar 1) (tCons (tCB (rIsP K (He.ga K c) p.1 d) (tCons (tVar 0) (tCons (tC (.ref (He.ga K "BadText"))) tNil))) tNil)))
      (tSeq (tAsg (tLst (tCons (tC (.str "BadUser")) (tCons (tC (.str "BadDeal")) (tCons (tC (.str "BadCondition")) (tCons (tC (.str "BadRules")) (tCons (tC (.str "BadName")) (tCons (tC (.str "BadNumber")) (tCons (tC (.str "Known")) (tCons (tC (.str "Needed")) (tCons (tC (.str "Ring")) tNil)))))))))) (gName 2))
      (tSeq (tIfS (tOr (tTest (tOp rNe (tCB (rSum K) (tCons (tLcH K (tVar 1) (gName 3) (tCB cInt1 (tCons (tVar 3) tNil)) [3]) tNil)) (tC (.int 1)))) (tNot (tB (tCB (rIsP K (He.ga K c) p.1 d) (tCons (tVar 0) (tCons (tC (.ty "ValueError")) tNil)))))) (tRet (tTup (tCons (tC (.str "refused")) (tCons (tC (.str "other")) tNil)))) tNext)
      (tRet (tTup (tCons (tC (.str "refused")) (tCons (tOp (rIxL K) (tOp rCat (tVar 2) (tLst (tCons (tC (.str "Full")) (tCons (tC (.str "BadDay")) (tCons (tC (.str "Nothing")) (tCons (tC (.str "BadText")) tNil)))))) (tBM K "list" (rIndexD K) (tVar 1) (tCons (tC (.bl true)) tNil))) tNil)))))))))), (pss_cons (ps_set (i := 1) sc__law_word.nd rfl (by first | exact Or.inl rfl | exact Or.inr rfl) (pe_lst (pa_cons (pe_callB (call_isP (p := p) (List.mem_singleton.mpr rfl) hC hz hf) (by rfl) T.Z_isinstance (by decide +kernel) (pa_cons (pv 0) (pa_cons (pe_glob (by rfl) T.G_BadUser rfl) pa_nil))) (pa_cons (pe_callB (call_isP (p := p) (List.mem_singleton.mpr rfl) hC hz hf) (by rfl) T.Z_isinstance (by decide +kernel) (pa_cons (pv 0) (pa_cons (pe_glob (by rfl) T.G_BadDeal rfl) pa_nil))) (pa_cons (pe_callB (call_isP (p := p) (List.mem_singleton.mpr rfl) hC hz hf) (by rfl) T.Z_isinstance (by decide +kernel) (pa_cons (pv 0) (pa_cons (pe_glob (by rfl) T.G_BadCondition rfl) pa_nil))) (pa_cons (pe_callB (call_isP (p := p) (List.mem_singleton.mpr rfl) hC hz hf) (by rfl) T.Z_isinstance (by decide +kernel) (pa_cons (pv 0) (pa_cons (pe_glob (by rfl) T.G_BadRules rfl) pa_nil))) pa_nil))))))
      (pss_cons (ps_set (i := 1) sc__law_word.nd rfl (by first | exact Or.inl rfl | exact Or.inr rfl) (pe_op op_cat (pv 1) (pe_lst (pa_cons (pe_callB (call_isP (p := p) (List.mem_singleton.mpr rfl) hC hz hf) (by rfl) T.Z_isinstance (by decide +kernel) (pa_cons (pv 0) (pa_cons (pe_glob (by rfl) T.G_BadName rfl) pa_nil))) (pa_cons (pe_callB (call_isP (p := p) (List.mem_singleton.mpr rfl) hC hz hf) (by rfl) T.Z_isinstance (by decide +kernel) (pa_cons (pv 0) (pa_cons (pe_glob (by rfl) T.G_BadNumber rfl) pa_nil))) (pa_cons (pe_callB (call_isP (p := p) (List.mem_singleton.mpr rfl) hC hz hf) (by rfl) T.Z_isinstance (by decide +kernel) (pa_cons (pv 0) (pa_cons (pe_glob (by rfl) T.G_Known rfl) pa_nil))) (pa_cons (pe_callB (call_isP (p := p) (List.mem_singleton.mpr rfl) hC hz hf) (by rfl) T.Z_isinstance (by decide +kernel) (pa_cons (pv 0) (pa_cons (pe_glob (by rfl) T.G_Needed rfl) pa_nil))) pa_nil)))))))
      (pss_cons (ps_set (i := 1) sc__law_word.nd rfl (by first | exact Or.inl rfl | exact Or.inr rfl) (pe_op op_cat (pv 1) (pe_lst (pa_cons (pe_callB (call_isP (p := p) (List.mem_singleton.mpr rfl) hC hz hf) (by rfl) T.Z_isinstance (by decide +kernel) (pa_cons (pv 0) (pa_cons (pe_glob (by rfl) T.G_Ring rfl) pa_nil))) (pa_cons (pe_callB (call_isP (p := p) (List.mem_singleton.mpr rfl) hC hz hf) (by rfl) T.Z_isinstance (by decide +kernel) (pa_cons (pv 0) (pa_cons (pe_glob (by rfl) T.G_Full rfl) pa_nil))) (pa_cons (pe_callB (call_isP (p := p) (List.mem_singleton.mpr rfl) hC hz hf) (by rfl) T.Z_isinstance (by decide +kernel) (pa_cons (pv 0) (pa_cons (pe_glob (by rfl) T.G_BadDay rfl) pa_nil))) (pa_cons (pe_callB (call_isP (p := p) (List.mem_singleton.mpr rfl) hC hz hf) (by rfl) T.Z_isinstance (by decide +kernel) (pa_cons (pv 0) (pa_cons (pe_glob (by rfl) T.G_Nothing rfl) pa_nil))) pa_nil)))))))
      (pss_cons (ps_expr (pe_bm PySem.F.plainAttrs_list PySem.F.slot_list_append PySem.F.type_list_append mt_append (pv 1) (pa_cons (pe_callB (call_isP (p := p) (List.mem_singleton.mpr rfl) hC hz hf) (by rfl) T.Z_isinstance (by decide +kernel) (pa_cons (pv 0) (pa_cons (pe_glob (by rfl) T.G_BadText rfl) pa_nil))) pa_nil)))
      (pss_cons (ps_set (i := 2) sc__law_word.nd rfl (by first | exact Or.inl rfl | exact Or.inr rfl) (pe_lst (pa_cons pe_str (pa_cons pe_str (pa_cons pe_str (pa_cons pe_str (pa_cons pe_str (pa_cons pe_str (pa_cons pe_str (pa_cons pe_str (pa_cons pe_str pa_nil)))))))))))
      (pss_cons (ps_if (PW.pt (pw_or (pt_cmpR op_ne (pe_callB (cr_sumH hot) (by rfl) T.Z_sum (by decide +kernel) (pa_cons (pe_lcH (own := [("flag", 3)]) hot sc__law_word.nd (pv 1) (blkOk_by (own := [("flag", 3)]) (N := ["e", "flags", "words", "flag"]) (sc := defScope s__law_word) (by decide +kernel)) (fun _ _ _ _ _ => (pg_name (i := 3) sc__law_word.nd rfl (by first | exact Or.inl rfl | exact Or.inr rfl))) (fun _ _ _ _ _ => (pe_callTy call_int1 (by rfl) T.Z_int (by decide +kernel) (pa_cons (pv 3) pa_nil)))) pa_nil)) pe_int (nomark _)) (pw_or1 (pt_not (pt_val (pe_callB (call_isP (p := p) (List.mem_singleton.mpr rfl) hC hz hf) (by rfl) T.Z_isinstance (by decide +kernel) (pa_cons (pv 0) (pa_cons (pe_bltn (v := .ty "ValueError") (by rfl) T.Z_ValueError (by decide +kernel) rfl) pa_nil)))))))) (pss_one (ps_ret (pe_tup (pa_cons pe_str (pa_cons pe_str pa_nil))))) pss_nil)
      (pss_one (ps_ret (pe_tup (pa_cons pe_str (pa_cons (pe_ix ix_list (pe_op op_cat (pv 2) (pe_lst (pa_cons pe_str (pa_cons pe_str (pa_cons pe_str (pa_cons pe_str pa_nil)))))) (pe_bm PySem.F.plainAttrs_list PySem.F.slot_list_index PySem.F.type_list_index (mt_indexD (huH hr)) (pv 1) (pa_cons pe_bl pa_nil)) (fun _ _ => rfl)) pa_nil))))))))))), ?_⟩
    walk_at "0"
    walk_at "g"
    refine w_isP (hk "BadUser" (by decide)) hd ?_
    walk_at "g"
    refine w_isP (hk "BadDeal" (by decide)) hd ?_
    walk_at "g"
    refine w_isP (hk "BadCondition" (by decide)) hd ?_
    walk_at "g"
    refine w_isP (hk "BadRules" (by decide)) hd ?_
    walk_at "g"
    refine w_newL (by simp) fun L1 H1 s1 nL1 hL1 => ?_
    have hd1 := xd_s hd s1
    walk_at "g"
    refine w_isP (hk "BadName" (by decide)) hd1 ?_
    walk_at "g"
    refine w_isP (hk "BadNumber" (by decide)) hd1 ?_
    walk_at "g"
    refine w_isP (hk "Known" (by decide)) hd1 ?_
    walk_at "g"
    refine w_isP (hk "Needed" (by decide)) hd1 ?_
    walk_at "g"
    refine w_newL (by simp) fun L2 H2 s2 nL2 hL2 => ?_
    refine w_catN (s2 _ _ hL1) hL2 (by simp) fun L3 H3 s3 nL3 hL3 => ?_
    have s03 := (s1.trans s2).trans s3
    have hd3 := xd_s hd s03
    walk_at "g"
    refine w_isP (hk "Ring" (by decide)) hd3 ?_
    walk_at "g"
    refine w_isP (hk "Full" (by decide)) hd3 ?_
    walk_at "g"
    refine w_isP (hk "BadDay" (by decide)) hd3 ?_
    walk_at "g"
    refine w_isP (hk "Nothing" (by decide)) hd3 ?_
    walk_at "g"
    refine w_newL (by simp) fun L4 H4 s4 nL4 hL4 => ?_
    refine w_catN (s4 _ _ hL3) hL4 (by simp) fun L5 H5 s5 nL5 hL5 => ?_
    have s05 := (s03.trans s4).trans s5
    have hd5 := xd_s hd s05
    have nL5' := s03.free (s4.free nL5)
    walk_at "g"
    refine ⟨tyL hL5, ?_⟩
    walk_at "g"
    refine w_isP (hk "BadText" (by decide)) hd5 ?_
    walk_at "g"
    refine w_appN s05 nL5' hL5 (by simp) fun H6 s06 hL6 _ => ?_
    have hL6 : H6 L5 = some (.lst ((flagsL c).map V.bl)) := hL6
    have hd6 := xd_s hd s06
    walk_at "g"
    refine w_newL (by simp) fun L7 H7 s7 nL7 hL7 => ?_
    walk_at "g"
    refine w_lcH ?_
    walk_at "g"
    refine ⟨L5, (flagsL c).map V.bl, ((flagsL c).map fun b => if b then (1 : Int) else 0).map V.int, rfl, s7 _ _ hL6, by simp, by simp [wnames], fun j x y Hj hx hy => ?_, fun D nD => ?_⟩
    · rw [List.getElem?_map] at hx
      obtain ⟨b, hb, rfl⟩ := Option.map_eq_some_iff.mp hx
      rw [List.getElem?_map, List.getElem?_map, hb] at hy
      cases hy
      walk_at "g"
      refine ⟨rfl, ?_⟩
      walk_at "g"
      exact ⟨rfl, rfl⟩
    have s8 : Same H7 (upd H7 D (.lst (((flagsL c).map fun b => if b then (1 : Int) else 0).map V.int))) := Same.new nD
    have hD8 : (upd H7 D (.lst (((flagsL c).map fun b => if b then (1 : Int) else 0).map V.int))) D = some (.lst (((flagsL c).map fun b => if b then (1 : Int) else 0).map V.int)) := upd_same
    generalize upd H7 D (.lst (((flagsL c).map fun b => if b then (1 : Int) else 0).map V.int)) = H8 at *
    walk_at "g"
    refine w_sum (lstOf hD8) ?_
    rw [flags_sum c hc]
    walk_at "g"
    have s08 := (s06.trans s7).trans s8
    refine w_isPT (T.W.val c hc) (xd_s hd s08) ?_
    walk_at "g"
    refine w_newL (by simp) fun L9 H9 s9 nL9 hL9 => ?_
    refine w_catN (s9 _ _ (s8 _ _ hL7)) hL9 (by simp) fun La Ha sa nLa hLa => ?_
    have hLa : Ha La = some (.lst (wnames.map V.str)) := hLa
    have s0a := (s08.trans s9).trans sa
    walk_at "g"
    have hFa := sa _ _ (s9 _ _ (s8 _ _ (s7 _ _ hL6)))
    refine ⟨tyL hFa, ?_⟩
    walk_at "g"
    obtain ⟨j, hj1, hj2, hj3⟩ := flags_ix c hc
    have hdf : Dp K Ha (.ref L5) (.list ((flagsL c).map PyData.bool)) := .lst (lstOf hFa) (dpAll_bools _)
    refine ⟨L5, .bl true, .bool true, _, j.val, .bool true, rfl, rfl, hdf, .bl true, shaped_bools _ (by simp [wnames]), rfl, ?_, rfl, fun m z hm hz => ?_, ?_⟩
    · rw [List.getElem?_map, hj2]
      rfl
    · have hm13 : m < 13 := by omega
      rw [List.getElem?_map, hj3 ⟨m, hm13⟩ hm] at hz
      cases hz
      rfl
    refine w_ixL (lstOf hLa) (at_of (j := j.val) rfl (by rw [List.getElem?_map, hj1]; rfl)) ?_
    walk_at "g"
    refine w_newT (by simp) fun t Ht st nt ht => ?_
    exact q t Ht (s0a.trans st) (s0a.free nt) ht
theorem told_ok {X : Cx} {k : Nat} {qq : Str} (T : Tx X.K X.mg) : GivesN X (k + 1) ["deed", "e"] "_law_told" (defScope s__law_told) (He.ga X.K "_law_told") (defBody s__law_told) "deed" qq (toldT X.K) := by
  intro cdg f c2 s H Q tl hr act hc h
  obtain ⟨fd, F, bE, kp⟩ := word_ok (P := X.prog) (w := X.w) (base := X.base) T
  have hr1 := hr.mono (j := 1) (by omega)
  refine ⟨_, pss_one (ps_tryN (n := "e") (i := 1) (Wout := fun cls d _ H => E0 cls d H) (tb := fun W D σ H => ∃ Ech : XK, (∀ cls d (σ2 : L2.St) H2, σ2.length = 2 → Ech cls d H2 → W cls d σ2 H2) ∧ σ[0]? = some (some (.ref f)) ∧ H c2 = some (LamX.CodeO c2 qq) ∧ tl Ech H D.rt) rfl rfl sc__law_told.nd rfl rfl (L2N.takes_of rfl rfl rfl rfl) (fun W pn xe tk => ?_)
    (HdsNm.cons (ts := fun a cls d => tRet (tOp (rCatT X.K) (tWord X.K a cls d) (tTup (tCons (tXf a cls d (He.ga X.K "Needed") "by" (tVar 1)) tNil)))) ⟨by rfl, by decide, .inl T.G_Needed⟩ (fun a oe cls d pn hz hf => pss_one (ps_ret (pe_op op_catT (pe_word F bE kp T.G__law_word hr1 hz hf (pv 1)) (pe_tup (pa_cons (pe_xf T.W.xf T.W.noby hz.zc hf (pv 1)) pa_nil)))))
    (HdsNm.cons (ts := fun a cls d => tRet (tWord X.K a cls d)) ⟨by rfl, by decide, .inl T.G_GateError⟩ (fun a oe cls d pn hz hf => pss_one (ps_ret (pe_word F bE kp T.G__law_word hr1 hz hf (pv 1)))) HdsNm.nil))), ?_⟩
  · refine ⟨fun pins s2 σ H2 D I h2 => ?_⟩
    obtain ⟨Ech, hW, h1, h2, h3⟩ := h2
    exact (pss_one (ps_ret (act W pn xe Ech _ _ tk hW))).run pins s2 σ H2 D I ⟨h1, h2, h3⟩
  refine ⟨toldE X.K Q, fun cls d σ2 H2 hl hE => ?_, rfl, hc, h⟩
  have hset : ∀ a : Addr, (σ2.set 1 (some (V.ref a)))[1]? = some (some (V.ref a)) := fun a => by
    rw [List.getElem?_set_self (by omega)]
  obtain ⟨c, hcw, rfl, hE⟩ := hE
  refine ⟨_, T.W.need c hcw, fun hb a na => ?_, fun hb => ⟨_, T.W.gate c hcw, fun _ a na => ?_, fun z => by cases z⟩⟩
  · rcases hE with ⟨n, _⟩ | ⟨rfl, dx, v, rfl, hx, q⟩
    · exact absurd (of_decide_eq_true hb) n
    · refine ⟨hset a, _, hcw, rfl, fun dy e => ⟨_, by cases e; exact hx⟩, fun t Ht st nt ht => ?_⟩
      refine ⟨.ref a, hset a, rfl, rfl, dx, _, v, rfl, st _ _ hx, rfl, ?_⟩
      refine ⟨sz (by simp), fun u nu => ?_⟩
      have su : Same Ht (upd Ht u (.tup [v])) := Same.new nu
      refine w_catT (tupOf (su _ _ ht)) (tupOf upd_same) (by simp) fun z nz => ?_
      exact q z _ ((st.trans su).trans (Same.new nz)) (st.free (su.free nz)) upd_same
  · rcases hE with ⟨n, rfl, q⟩ | ⟨rfl, _⟩
    · exact ⟨hset a, c, hcw, rfl, (fun dy e => nomatch e), q⟩
    · simp at hb
theorem pe_told {X : Cx} {k : Nat} {x : Str} {params : Arguments} {body : Expr} {scope : Scope} {t : XK → TE} {p lpos pos : Pos} (T : Tx X.K X.mg) (B : TLs X.base X.mg X.K tfS) (hx : x ∈ tfS) (hq : X.env.qual ++ "<lambda>" = lamQ x) (hcode : X.env.code = .ref (He.cT X.K (x, none)).1) (hr : Room (k + 2) X.A) (L : LamX.LamS X.env.scope scope) (hdef : defaultsOf params X.env = ([], []))
    (hbind : ∀ (q : Str) (cl : List (Str × Addr)) (pm cv ctv : Value), bindArgs (PySem.W.kla_fn "<lambda>" q params body scope cl pm cv ctv) ⟨[], []⟩ = pure [])
    (hbody : ∀ (A : Around) (outer : List Env) (s : Shared) (H : Hp) (E : XK) (f c2 : Addr), Room k (A.deeper (LamX.lamEnv X scope s.heap.objs.size f c2)) → PE (lamCxN X A outer s H E scope f c2) body (t E)) (hg : Gl X "_law_told" := by rfl) :
    PE X (.Call (.Name "_law_told" p) [.Lambda params body scope lpos] [] pos) (LamX.tLam (tabL X.K tfS) (toldT X.K) t) := by
  obtain ⟨fd, F⟩ := T.F__law_told
  exact pe_lamN T.G__law_told F (fun _ _ _ _ _ _ us hl => match us, hl with | [_], _ => rfl) sc__law_told rfl (.inl rfl) (told_ok T) (B.tb x hx) hcode (List.mem_map.mpr ⟨x, hx, by rw [hq]⟩)
    (fun p hp e => by
      obtain ⟨y, hy, rfl⟩ := List.mem_map.mp hp
      rw [hq, B.ap x hx y hy e]) hr L hdef hbind hbody hg

theorem ok__law_deal (T : Tx K mg) : Ok P w K mg base 3 "_law_deal" ["dice"] (spDeal K) := by
  refine Ok.mk' T.G__law_deal T.F__law_deal (fun _ _ _ _ _ _ us hl => match us, hl with | [_], _ => rfl) sc__law_deal (fun vs H Q E h => ?_) (fun cdv A outer s H vs Q E hr h => ?_)
  · obtain ⟨a, rfl, hd, q⟩ := h
    rfl
  · obtain ⟨a, rfl, hd, q⟩ := h
    refine ⟨(tRet (tTup (tCons (tOp oAdd (tOp oMul (tC (.int 10)) (tCall (spRoll) [] E (tCons (tVar 0) (tCons (tC (.int 10)) tNil)))) (tOp (rIxL K) (tLst (tCons (tC (.int 1)) (tCons (tC (.int 3)) (tCons (tC (.int 7)) (tCons (tC (.int 9)) tNil))))) (tCall (spRoll) [] E (tCons (tVar 0) (tCons (tC (.int 4)) tNil))))) (tCons (tCall (spRoll) [] E (tCons (tVar 0) (tCons (tC (.int 100)) tNil))) tNil)))), (pss_one (ps_ret (pe_tup (pa_cons (pe_op op_add (pe_op op_mul pe_int (pe_f (ok__law_roll T) hr (pnx (L2N.takes_of rfl rfl rfl rfl)) (pa_cons (pv 0) (pa_cons pe_int pa_nil)))) (pe_ix ix_list (pe_lst (pa_cons pe_int (pa_cons pe_int (pa_cons pe_int (pa_cons pe_int pa_nil))))) (pe_f (ok__law_roll T) hr (pnx (L2N.takes_of rfl rfl rfl rfl)) (pa_cons (pv 0) (pa_cons pe_int pa_nil))) (fun _ _ => rfl))) (pa_cons (pe_f (ok__law_roll T) hr (pnx (L2N.takes_of rfl rfl rfl rfl)) (pa_cons (pv 0) (pa_cons pe_int pa_nil))) pa_nil))))), ?_⟩
    walk_at "0"
    walk_at "g"
    refine ⟨a, 10, rfl, hd, by decide, by decide, fun r H1 r0 r1 b1 => ?_⟩
    refine w_I (.inl ⟨by decide, by decide⟩) ?_
    walk_at "g"
    refine ⟨sz (by simp), fun p np => ?_⟩
    have b2 := b1.new (o := .lst [.int 1, .int 3, .int 7, .int 9]) np
    walk_at "g"
    refine ⟨a, 4, rfl, b2.d1, by decide, by decide, fun r2 H2 r20 r21 b3 => ?_⟩
    have hp := b3.kp p _ upd_same (b1.d1.ne np)
    obtain ⟨z, hz, hz2⟩ := atI_four (a := 1) (b := 3) (c := 7) (d := 9) r20 r21
    refine w_ixL (lstOf hp) hz ?_
    walk_at "g"
    refine ⟨a, 100, rfl, b3.d1, by decide, by decide, fun r3 H3 r30 r31 b4 => ?_⟩
    walk_at "g"
    refine ⟨sz (by simp), fun t nt => ?_⟩
    have b5 := (b2.trans b3).trans b4
    exact q t _ _ _ (b5.new nt) (b5.free nt) upd_same (isDeal_mk (by omega) (by omega) (by omega) (by omega) (by omega) (by omega))
theorem ok__law_user (T : Tx K mg) : Ok P w K mg base 3 "_law_user" ["dice"] (spUser K) := by
  refine Ok.mk' T.G__law_user T.F__law_user (fun _ _ _ _ _ _ us hl => match us, hl with | [_], _ => rfl) sc__law_user (fun vs H Q E h => ?_) (fun cdv A outer s H vs Q E hr h => ?_)
  · obtain ⟨a, rfl, hd, q⟩ := h
    rfl
  · obtain ⟨a, rfl, hd, q⟩ := h
    refine ⟨(tSeq (tAsg (tCall (spRoll) [] E (tCons (tVar 0) (tCons (tOp (rIxL K) (tLst (tCons (tC (.int 130)) (tCons (tOp oPow (tC (.int 10)) (tC (.int 6))) (tCons (tOp oAdd (tOp oPow (tC (.int 10)) (tC (.int 12))) (tC (.int 1))) (tCons (tC (.int 130)) tNil))))) (tCall (spRoll) [] E (tCons (tVar 0) (tCons (tC (.int 4)) tNil)))) tNil))) (gName 1))
      (tRet (tTup (tCons (tVar 1) (tCons (tCall (spRoll) [] E (tCons (tVar 0) (tCons (tC (.int 6)) tNil))) (tCons (tCall (spRoll) [] E (tCons (tVar 0) (tCons (tC (.int 4)) tNil))) tNil)))))), (pss_cons (ps_set (i := 1) sc__law_user.nd rfl (by first | exact Or.inl rfl | exact Or.inr rfl) (pe_f (ok__law_roll T) hr (pnx (L2N.takes_of rfl rfl rfl rfl)) (pa_cons (pv 0) (pa_cons (pe_ix ix_list (pe_lst (pa_cons pe_int (pa_cons (pe_op op_pow pe_int pe_int) (pa_cons (pe_op op_add (pe_op op_pow pe_int pe_int) pe_int) (pa_cons pe_int pa_nil))))) (pe_f (ok__law_roll T) hr (pnx (L2N.takes_of rfl rfl rfl rfl)) (pa_cons (pv 0) (pa_cons pe_int pa_nil))) (fun _ _ => rfl)) pa_nil))))
      (pss_one (ps_ret (pe_tup (pa_cons (pv 1) (pa_cons (pe_f (ok__law_roll T) hr (pnx (L2N.takes_of rfl rfl rfl rfl)) (pa_cons (pv 0) (pa_cons pe_int pa_nil))) (pa_cons (pe_f (ok__law_roll T) hr (pnx (L2N.takes_of rfl rfl rfl rfl)) (pa_cons (pv 0) (pa_cons pe_int pa_nil))) pa_nil))))))), ?_⟩
    walk_at "0"
    walk_at "g"
    refine w_I ⟨by decide, by decide, by decide⟩ ?_
    walk_at "g"
    refine w_I ⟨by decide, by decide, by decide⟩ ?_
    walk_at "g"
    refine ⟨sz (by simp), fun p np => ?_⟩
    have b1 := (But.refl hd).new (o := .lst [.int 130, .int (10 ^ 6), .int (10 ^ 12 + 1), .int 130]) np
    walk_at "g"
    refine ⟨a, 4, rfl, b1.d1, by decide, by decide, fun r H1 r0 r1 b2 => ?_⟩
    have hp := b2.kp p _ upd_same (hd.ne np)
    obtain ⟨z, hz, hz2⟩ := atI_four (a := 130) (b := 10 ^ 6) (c := 10 ^ 12 + 1) (d := 130) r0 r1
    refine w_ixL (lstOf hp) hz ?_
    walk_at "g"
    refine ⟨a, z, rfl, b2.d1, by omega, by omega, fun n H2 n0 n1 b3 => ?_⟩
    walk_at "g"
    refine ⟨a, 6, rfl, b3.d1, by decide, by decide, fun l H3 l0 l1 b4 => ?_⟩
    walk_at "g"
    refine ⟨a, 4, rfl, b4.d1, by decide, by decide, fun m H4 m0 m1 b5 => ?_⟩
    walk_at "g"
    refine ⟨sz (by simp), fun t nt => ?_⟩
    have b6 := ((b1.trans b2).trans b3).trans (b4.trans b5)
    exact q t _ _ _ _ (b6.new nt) (b6.free nt) upd_same n0 (by omega) l0 (by omega) m0 (by omega)
theorem ok__law_name (T : Tx K mg) : Ok P w K mg base 3 "_law_name" ["dice"] (spLName K) := by
  refine Ok.mk' T.G__law_name T.F__law_name (fun _ _ _ _ _ _ us hl => match us, hl with | [_], _ => rfl) sc__law_name (fun vs H Q E h => ?_) (fun cdv A outer s H vs Q E hr h => ?_)
  · obtain ⟨a, rfl, hd, q⟩ := h
    rfl
  · obtain ⟨a, rfl, hd, q⟩ := h
    refine ⟨(tRet (tOp (rIxL K) (tLst (tCons (tC (.str "ab")) (tCons (tC (.str "cd")) (tCons (tC (.str "ef")) (tCons (tC (.str "gh")) (tCons (tC (.str "ij")) tNil)))))) (tCall (spRoll) [] E (tCons (tVar 0) (tCons (tC (.int 5)) tNil))))), (pss_one (ps_ret (pe_ix ix_list (pe_lst (pa_cons pe_str (pa_cons pe_str (pa_cons pe_str (pa_cons pe_str (pa_cons pe_str pa_nil)))))) (pe_f (ok__law_roll T) hr (pnx (L2N.takes_of rfl rfl rfl rfl)) (pa_cons (pv 0) (pa_cons pe_int pa_nil))) (fun _ _ => rfl)))), ?_⟩
    walk_at "0"
    walk_at "g"
    refine w_newL (by simp) fun p H1 s1 np hp => ?_
    have b1 := But.of hd s1
    walk_at "g"
    refine ⟨a, 5, rfl, b1.d1, by decide, by decide, fun r H2 r0 r1 b2 => ?_⟩
    obtain ⟨r, rfl⟩ := Int.eq_ofNat_of_zero_le r0
    have hp2 : H2 p = some (.lst (names5.map V.str)) := b2.kp _ _ hp (hd.ne np)
    have hr : r < names5.length := by show r < 5; omega
    exact w_ixL (lstOf hp2) (at_of (j := r) rfl (by rw [List.getElem?_map, List.getElem?_eq_getElem hr]; rfl)) (q _ _ (b1.trans b2) (List.getElem_mem hr))
theorem ok__law_hall_deed (T : Tx K mg) : Ok P w K mg base 4 "_law_hall_deed" ["dice", "owners"] (spHDeed K) := by
  refine Ok.mk' T.G__law_hall_deed T.F__law_hall_deed (fun _ _ _ _ _ _ us hl => match us, hl with | [_, _], _ => rfl) sc__law_hall_deed (fun vs H Q E h => ?_) (fun cdv A outer s H vs Q E hr h => ?_)
  · obtain ⟨a, vo, rfl, hd, q⟩ := h
    rfl
  · obtain ⟨a, vo, rfl, hd, q⟩ := h
    refine ⟨(tSeq (tPar 2 3 (tCons (tCall (spRoll) [] E (tCons (tVar 0) (tCons (tC (.int 6)) tNil))) (tCons (tCall (spLName K) [] E (tCons (tVar 0) tNil)) tNil)))
      (tSeq (tAsg (tOp oAdd (tC (.int 1)) (tOp (rIxL K) (tLst (tCons (tCall (spRoll) [] E (tCons (tVar 0) (tCons (tC (.int 8)) tNil))) (tCons (tCall (spRoll) [] E (tCons (tVar 0) (tCons (tC (.int 40)) tNil))) (tCons (tCall (spRoll) [] E (tCons (tVar 0) (tCons (tC (.int 100)) tNil))) tNil)))) (tCall (spRoll) [] E (tCons (tVar 0) (tCons (tC (.int 3)) tNil))))) (gName 4))
      (tRet (tTup (tCons (tOp (rIxL K) (tLst (tCons (tC (.str "come")) (tCons (tC (.str "come")) (tCons (tC (.str "grow")) (tCons (tC (.str "grow")) (tCons (tC (.str "shrink")) (tCons (tC (.str "shrink")) tNil))))))) (tVar 2)) (tCons (tVar 3) (tCons (tVar 4) tNil))))))), (pss_cons (ps_par (by rfl) sc__law_hall_deed.nd rfl rfl (by decide) rfl rfl (pa_cons (pe_f (ok__law_roll T) hr (pnx (L2N.takes_of rfl rfl rfl rfl)) (pa_cons (pv 0) (pa_cons pe_int pa_nil))) (pa_cons (pe_f (ok__law_name T) hr (pnx (L2N.takes_of rfl rfl rfl rfl)) (pa_cons (pv 0) pa_nil)) pa_nil)) (by rfl))
      (pss_cons (ps_set (i := 4) sc__law_hall_deed.nd rfl (by first | exact Or.inl rfl | exact Or.inr rfl) (pe_op op_add pe_int (pe_ix ix_list (pe_lst (pa_cons (pe_f (ok__law_roll T) hr (pnx (L2N.takes_of rfl rfl rfl rfl)) (pa_cons (pv 0) (pa_cons pe_int pa_nil))) (pa_cons (pe_f (ok__law_roll T) hr (pnx (L2N.takes_of rfl rfl rfl rfl)) (pa_cons (pv 0) (pa_cons pe_int pa_nil))) (pa_cons (pe_f (ok__law_roll T) hr (pnx (L2N.takes_of rfl rfl rfl rfl)) (pa_cons (pv 0) (pa_cons pe_int pa_nil))) pa_nil)))) (pe_f (ok__law_roll T) hr (pnx (L2N.takes_of rfl rfl rfl rfl)) (pa_cons (pv 0) (pa_cons pe_int pa_nil))) (fun _ _ => rfl))))
      (pss_one (ps_ret (pe_tup (pa_cons (pe_ix ix_list (pe_lst (pa_cons pe_str (pa_cons pe_str (pa_cons pe_str (pa_cons pe_str (pa_cons pe_str (pa_cons pe_str pa_nil))))))) (pv 2) (fun _ _ => rfl)) (pa_cons (pv 3) (pa_cons (pv 4) pa_nil)))))))), ?_⟩
    walk_at "0"
    walk_at "g"
    refine ⟨a, 6, rfl, hd, by decide, by decide, fun way H1 w0 w1 b1 => ?_⟩
    walk_at "g"
    refine ⟨a, rfl, b1.d1, fun z H2 b2 hz => ?_⟩
    refine w_nil ⟨_, _, rfl, ?_⟩
    walk_at "g"
    refine ⟨a, 8, rfl, b2.d1, by decide, by decide, fun x1 H3 x10 x11 b3 => ?_⟩
    walk_at "g"
    refine ⟨a, 40, rfl, b3.d1, by decide, by decide, fun x2 H4 x20 x21 b4 => ?_⟩
    walk_at "g"
    refine ⟨a, 100, rfl, b4.d1, by decide, by decide, fun x3 H5 x30 x31 b5 => ?_⟩
    refine w_nil ?_
    refine w_newL (by simp) fun p H6 s6 np hp => ?_
    have b6 := (((b1.trans b2).trans b3).trans b4).trans b5
    have b6' := b6.same s6
    walk_at "g"
    refine ⟨a, 3, rfl, b6'.d1, by decide, by decide, fun r H7 r0 r1 b7 => ?_⟩
    have hp7 := b7.kp _ _ hp (b6.d1.ne np)
    obtain ⟨u, hu, hu3⟩ := atI_three (x := x1) (y := x2) (z := x3) r0 r1
    refine w_ixL (lstOf hp7) hu ?_
    walk_at "g"
    refine w_newL (by simp) fun p2 H8 s8 np2 hp2 => ?_
    have hp2 : H8 p2 = some (.lst (wordsH.map V.str)) := hp2
    obtain ⟨way, rfl⟩ := Int.eq_ofNat_of_zero_le w0
    have hw : way < wordsH.length := by show way < 6; omega
    walk_at "g"
    refine w_ixL (lstOf hp2) (at_of (j := way) rfl (by rw [List.getElem?_map, List.getElem?_eq_getElem hw]; rfl)) ?_
    walk_at "g"
    refine w_newT (by simp) fun t H9 s9 nt ht => ?_
    obtain ⟨u, rfl⟩ := Int.eq_ofNat_of_zero_le (show 0 ≤ u by omega)
    have b9 := ((b6'.trans b7).same s8).same s9
    have e1 : (1 : Int) + (u : Int) = ((u + 1 : Nat) : Int) := by omega
    rw [e1] at ht
    exact q t _ z (u + 1) H9 b9 (((b6'.trans b7).same s8).free nt) ht (List.getElem_mem hw) hz (by omega) (by omega)
theorem ok__law_hall_due (T : Tx K mg) : Ok P w K mg base 1 "_law_hall_due" ["owners", "deed"] (spHDue K) := by
  refine Ok.mk' T.G__law_hall_due T.F__law_hall_due (fun _ _ _ _ _ _ us hl => match us, hl with | [_, _], _ => rfl) sc__law_hall_due (fun vs H Q E h => ?_) (fun cdv A outer s H vs Q E hr h => ?_)
  · obtain ⟨O, p, os, w', z, n, rfl, hO, hlen, hp, hw, n1, n2, q⟩ := h
    rfl
  · obtain ⟨O, p, os, w', z, n, rfl, hO, hlen, hp, hw, n1, n2, q⟩ := h
    refine ⟨(tSeq (tAsg (tVar 1) (gTup K 3 (gCons (gName 2) (gCons (gName 3) (gCons (gName 4) gNil)))))
      (tSeq (tAsg (tLc (iEnum K (tCons (tVar 0) tNil)) (gTup K 2 (gCons (gName 5) (gCons (gName 6) gNil))) (tTest (tOp rEq (tVar 6) (tVar 3))) (tVar 5) [5, 6]) (gName 7))
      (tSeq (tAsg (tLc (iEnum K (tCons (tVar 0) tNil)) (gTup K 2 (gCons (gName 5) (gCons (gName 6) gNil))) (tTest (tOp oIsN (tVar 6) (tC .non))) (tVar 5) [5, 6]) (gName 8))
      (tSeq (tIfS (tTest (tOp rNe (tOp rEq (tVar 2) (tC (.str "come"))) (tOp (rEqD K) (tVar 7) (tLst tNil)))) (tRet (tTup (tCons (tC (.str "refused")) (tCons (tIf (tTest (tOp rEq (tVar 2) (tC (.str "come")))) (tC (.str "Known")) (tC (.str "BadName"))) tNil)))) tNext)
      (tSeq (tIfS (tTest (tOp rEq (tVar 2) (tC (.str "shrink")))) (tSeq (tIfS (tTest (tOp oGt (tVar 4) (tCB (cLen K) (tCons (tVar 7) tNil)))) (tRet (tTup (tCons (tC (.str "refused")) (tCons (tC (.str "BadNumber")) tNil)))) tNext)
      (tSeq (tFor (iList K (tSl (rSlL K) (tVar 7) (tPart (tOp oSub (tCB (cLen K) (tCons (tVar 7) tNil)) (tVar 4))) tNoPart)) (gName 5) (tAsg (tC .non) (gSub (tVar 0) (tVar 5) rSetL)))
      (tRet (tSl (rSlL K) (tVar 7) (tPart (tOp oSub (tCB (cLen K) (tCons (tVar 7) tNil)) (tVar 4))) tNoPart)))) tNext)
      (tSeq (tIfS (tTest (tOp oGt (tVar 4) (tCB (cLen K) (tCons (tVar 8) tNil)))) (tRet (tTup (tCons (tC (.str "refused")) (tCons (tC (.str "Full")) tNil)))) tNext)
      (tSeq (tFor (iList K (tSl (rSlL K) (tVar 8) tNoPart (tPart (tVar 4)))) (gName 5) (tAsg (tVar 3) (gSub (tVar 0) (tVar 5) rSetL)))
      (tRet (tSl (rSlL K) (tVar 8) tNoPart (tPart (tVar 4))))))))))), (pss_cons (ps_asg (pv 1) (pg_tup (by rfl) (pgs_cons (pg_name (i := 2) sc__law_hall_due.nd rfl (by first | exact Or.inl rfl | exact Or.inr rfl)) (pgs_cons (pg_name (i := 3) sc__law_hall_due.nd rfl (by first | exact Or.inl rfl | exact Or.inr rfl)) (pgs_cons (pg_name (i := 4) sc__law_hall_due.nd rfl (by first | exact Or.inl rfl | exact Or.inr rfl)) pgs_nil)))))
      (pss_cons (ps_setLc (i := 7) (own := [("at", 5), ("one", 6)]) rfl sc__law_hall_due.nd rfl rfl (sw_true rfl rfl rfl (by decide +kernel)) (pi_enum (by rfl) T.Z_enumerate (pa_cons (pv 0) pa_nil)) (blkOk_by (own := [("at", 5), ("one", 6)]) (N := ["owners", "deed", "word", "name", "many", "at", "one", "own", "free"]) (sc := defScope s__law_hall_due) (by decide +kernel)) (fun _ _ _ _ _ => (pg_tup (by rfl) (pgs_cons (pg_name (i := 5) sc__law_hall_due.nd rfl (by first | exact Or.inl rfl | exact Or.inr rfl)) (pgs_cons (pg_name (i := 6) sc__law_hall_due.nd rfl (by first | exact Or.inl rfl | exact Or.inr rfl)) pgs_nil)))) (fun _ _ _ _ _ => (pts_one (pt_cmpR op_eq (pv 6) (pv 3) (nomark _)))) (fun _ _ _ _ _ => (pv 5)))
      (pss_cons (ps_setLc (i := 8) (own := [("at", 5), ("one", 6)]) rfl sc__law_hall_due.nd rfl rfl (sw_true rfl rfl rfl (by decide +kernel)) (pi_enum (by rfl) T.Z_enumerate (pa_cons (pv 0) pa_nil)) (blkOk_by (own := [("at", 5), ("one", 6)]) (N := ["owners", "deed", "word", "name", "many", "at", "one", "own", "free"]) (sc := defScope s__law_hall_due) (by decide +kernel)) (fun _ _ _ _ _ => (pg_tup (by rfl) (pgs_cons (pg_name (i := 5) sc__law_hall_due.nd rfl (by first | exact Or.inl rfl | exact Or.inr rfl)) (pgs_cons (pg_name (i := 6) sc__law_hall_due.nd rfl (by first | exact Or.inl rfl | exact Or.inr rfl)) pgs_nil)))) (fun _ _ _ _ _ => (pts_one (pt_cmpR op_isN (pv 6) pe_non (nomark _)))) (fun _ _ _ _ _ => (pv 5)))
      (pss_cons (ps_if (pt_cmpR op_ne (pe_cmpR op_eq (pv 2) pe_str (nomark _)) (pe_cmpR (op_eqD hr.units) (pv 7) (pe_lst pa_nil) (nomark _)) (nomark _)) (pss_one (ps_ret (pe_tup (pa_cons pe_str (pa_cons (pe_ifExp (pt_cmpR op_eq (pv 2) pe_str (nomark _)) pe_str pe_str) pa_nil))))) pss_nil)
      (pss_cons (ps_if (pt_cmpR op_eq (pv 2) pe_str (nomark _)) (pss_cons (ps_if (pt_cmpR op_gt (pv 4) (pe_callB call_len (by rfl) T.Z_len (by decide +kernel) (pa_cons (pv 7) pa_nil)) (nomark _)) (pss_one (ps_ret (pe_tup (pa_cons pe_str (pa_cons pe_str pa_nil))))) pss_nil)
      (pss_cons (ps_for (passes_of rfl) rfl (pi_list (pe_slice sl_list (pv 7) (po_some (pe_op op_sub (pe_callB call_len (by rfl) T.Z_len (by decide +kernel) (pa_cons (pv 7) pa_nil)) (pv 4))) po_none)) (pg_name (i := 5) sc__law_hall_due.nd rfl (by first | exact Or.inl rfl | exact Or.inr rfl)) (pss_one (ps_asg pe_non (pg_sub (pv 0) (pv 5) set_list))))
      (pss_one (ps_ret (pe_slice sl_list (pv 7) (po_some (pe_op op_sub (pe_callB call_len (by rfl) T.Z_len (by decide +kernel) (pa_cons (pv 7) pa_nil)) (pv 4))) po_none))))) pss_nil)
      (pss_cons (ps_if (pt_cmpR op_gt (pv 4) (pe_callB call_len (by rfl) T.Z_len (by decide +kernel) (pa_cons (pv 8) pa_nil)) (nomark _)) (pss_one (ps_ret (pe_tup (pa_cons pe_str (pa_cons pe_str pa_nil))))) pss_nil)
      (pss_cons (ps_for (passes_of rfl) rfl (pi_list (pe_slice sl_list (pv 8) po_none (po_some (pv 4)))) (pg_name (i := 5) sc__law_hall_due.nd rfl (by first | exact Or.inl rfl | exact Or.inr rfl)) (pss_one (ps_asg (pv 3) (pg_sub (pv 0) (pv 5) set_list))))
      (pss_one (ps_ret (pe_slice sl_list (pv 8) po_none (po_some (pv 4)))))))))))), ?_⟩
    walk_at "0"
    have hpO : p ≠ O := ne_of hp hO (by intro z; cases z)
    walk_at "p"
    refine w_var rfl (w_gtup (tupOf hp) rfl ?_)
    walk_at "g"
    refine ⟨O, _, rfl, lstOf hO, ?_⟩
    refine lc_idx (o := some z) hO (by omega) (fun i T' x H' Qb s1 hT' k => ?_) fun F1 H1 nF1 s1 hF1 => ?_
    · refine w_gtup (tupOf hT') rfl ?_
      walk_at "g"
      refine ⟨rfl, ?_⟩
      walk_at "g"
      refine w_eq (nm_scal x z) ?_
      rw [nm_some]
      walk_at "g"
      exact k _ fun Qv hq => w_var rfl hq
    walk_at "g"
    have hO1 := s1 _ _ hO
    refine ⟨O, _, rfl, lstOf hO1, ?_⟩
    refine lc_idx (o := none) hO1 (by omega) (fun i T' x H' Qb s2 hT' k => ?_) fun F2 H2 nF2 s2 hF2 => ?_
    · refine w_gtup (tupOf hT') rfl ?_
      walk_at "g"
      refine ⟨rfl, ?_⟩
      walk_at "g"
      rw [nm_none]
      exact k _ fun Qv hq => w_var rfl hq
    have s02 := s1.trans s2
    have hO2 := s2 _ _ hO1
    have hF12 := s2 _ _ hF1
    have l1 : (idxL os (some z)).length ≤ 100 := by have := idxL_le os (some z); omega
    have l2 : (idxL os none).length ≤ 100 := by have := idxL_le os none; omega
    have dpn1 : Dp K H2 (.ref F1) (natsD (idxL os (some z))) := (dpf_nats (H0 := fun _ => none) (nw_none rfl) hF12).dp
    walk_at "g"
    refine w_newL (by simp) fun F3 H3 s3 nF3 hF3 => ?_
    refine w_eqD (dp_s s3 dpn1) (.lst (lstOf hF3) .nil) (natsD_gd _ (by omega)).sh rfl ?_
    rw [nm_eqNil]
    walk_at "g"
    refine w_neB ?_
    have s03 := s02.trans s3
    have hO3 := s3 _ _ hO2
    have hF13 := s3 _ _ hF12
    have hF23 := s3 _ _ hF2
    have nF10 := nF1
    have nF20 := s1.free nF2
    have e1 : (natsV (idxL os (some z))).length = (idxL os (some z)).length := by unfold natsV; rw [List.length_map]
    have e2 : (natsV (idxL os none)).length = (idxL os none).length := by unfold natsV; rw [List.length_map]
    walk_at "g"
    refine if_b (fun hb => ?_) (fun hb => ?_)
    · have ef : hallF os w' z n = (refD (if w' = "come" then "Known" else "BadName"), os) := by
        unfold hallF
        rw [if_pos hb]
      walk_at "g"
      refine if_b (fun hc => ?_) (fun hc => ?_)
      · walk_at "g"
        refine w_newT (by simp) fun t H4 s4 nt ht => ?_
        rw [ef, if_pos (of_decide_eq_true hc)] at q
        exact q _ H4 (oth_of (s03.trans s4)) (s4 _ _ hO3) (dpf_ref ht)
      · walk_at "g"
        refine w_newT (by simp) fun t H4 s4 nt ht => ?_
        rw [ef, if_neg (of_decide_eq_false hc)] at q
        exact q _ H4 (oth_of (s03.trans s4)) (s4 _ _ hO3) (dpf_ref ht)
    · walk_at "g"
      refine if_b (fun hc => ?_) (fun hc => ?_)
      · have hc := of_decide_eq_true hc
        walk_at "g"
        refine w_lenL (lstOf hF13) ?_
        rw [e1]
        walk_at "g"
        refine if_b (fun hn => ?_) (fun hn => ?_)
        · have hn := of_decide_eq_true hn
          walk_at "g"
          refine w_newT (by simp) fun t H4 s4 nt ht => ?_
          have ef : hallF os w' z n = (refD "BadNumber", os) := by
            unfold hallF
            rw [if_neg (by rw [hb]; simp), if_pos hc, if_pos (by omega)]
          rw [ef] at q
          exact q _ H4 (oth_of (s03.trans s4)) (s4 _ _ hO3) (dpf_ref ht)
        · have hn := of_decide_eq_false hn
          have ef : hallF os w' z n = (natsD ((idxL os (some z)).drop ((idxL os (some z)).length - n)), setAll os ((idxL os (some z)).drop ((idxL os (some z)).length - n)) none) := by
            unfold hallF
            rw [if_neg (by rw [hb]; simp), if_pos hc, if_neg (by omega)]
          rw [ef] at q
          have esub : ((idxL os (some z)).length : Int) - (n : Int) = (((idxL os (some z)).length - n : Nat) : Int) := by omega
          walk_at "g"
          refine w_lenL (lstOf hF13) ?_
          rw [e1]
          walk_at "g"
          rw [esub]
          refine w_slLFrom (lstOf hF13) fun F4 H4 s4 nF4 hF4 => ?_
          rw [natsV_drop] at hF4
          refine ⟨F4, rfl, ⟨_, lstOf hF4⟩, ?_⟩
          have n4O : F4 ≠ O := fun e => by
            rw [e, hO3] at nF4
            cases nF4
          have n1O : F1 ≠ O := fun e => by
            rw [e, hO] at nF1
            cases nF1
          refine for_ownL (o := none) (fun σ => ∃ x5 x6, σ = [some (.ref O), some (.ref p), some (.str w'), some (.str z), some (.int (n : Nat)), x5, x6, some (.ref F1), some (.ref F2)]) (s4 _ _ hO3) hF4 n4O ⟨_, _, rfl⟩ (fun i hi => idxL_lt (List.mem_of_mem_drop hi)) ?_ ?_
          · rintro i σ H' xs N ⟨x5, x6, rfl⟩ hx hxl hi k
            walk_at "p"
            refine w_c (w_sub (w_var rfl (w_var rfl ?_)))
            refine w_setL hx (j := i) (by rw [List.length_map]; unfold ixN; rw [if_pos (by omega), if_pos (by omega)]; simp) ?_
            rw [show V.non = nmV none from rfl, nm_set]
            exact k _ _ ⟨_, _, rfl⟩ Oth.refl.put upd_same
          · rintro σ H5 ⟨x5, x6, rfl⟩ o5 hO5
            have hF15 := o5 _ _ (s4 _ _ hF13) n1O
            walk_at "g"
            refine w_lenL (lstOf hF15) ?_
            rw [e1]
            walk_at "g"
            rw [esub]
            refine w_slLFrom (lstOf hF15) fun F6 H6 s6 nF6 hF6 => ?_
            rw [natsV_drop] at hF6
            have nF60 : H F6 = none := by
              cases e : H F6 with
              | none => rfl
              | some u =>
                exfalso
                by_cases h6 : F6 = O
                · rw [h6, hO5] at nF6
                  cases nF6
                · have := o5 _ _ (s4 _ _ (s03 _ _ e)) h6
                  rw [nF6] at this
                  cases this
            exact q _ H6 (((oth_of (s03.trans s4)).trans o5).same s6) (s6 _ _ hO5) (dpf_nats (nw_none nF60) hF6)
      · have hc := of_decide_eq_false hc
        walk_at "g"
        refine w_lenL (lstOf hF23) ?_
        rw [e2]
        walk_at "g"
        refine if_b (fun hn => ?_) (fun hn => ?_)
        · have hn := of_decide_eq_true hn
          walk_at "g"
          refine w_newT (by simp) fun t H4 s4 nt ht => ?_
          have ef : hallF os w' z n = (refD "Full", os) := by
            unfold hallF
            rw [if_neg (by rw [hb]; simp), if_neg hc, if_pos (by omega)]
          rw [ef] at q
          exact q _ H4 (oth_of (s03.trans s4)) (s4 _ _ hO3) (dpf_ref ht)
        · have hn := of_decide_eq_false hn
          have ef : hallF os w' z n = (natsD ((idxL os none).take n), setAll os ((idxL os none).take n) (some z)) := by
            unfold hallF
            rw [if_neg (by rw [hb]; simp), if_neg hc, if_neg (by omega)]
          rw [ef] at q
          walk_at "g"
          refine w_slLToN (k := n) (lstOf hF23) fun F4 H4 s4 nF4 hF4 => ?_
          rw [natsV_take] at hF4
          refine ⟨F4, rfl, ⟨_, lstOf hF4⟩, ?_⟩
          have n4O : F4 ≠ O := fun e => by
            rw [e, hO3] at nF4
            cases nF4
          have n2O : F2 ≠ O := fun e => by
            rw [e, hO] at nF20
            cases nF20
          refine for_ownL (o := some z) (fun σ => ∃ x5 x6, σ = [some (.ref O), some (.ref p), some (.str w'), some (.str z), some (.int (n : Nat)), x5, x6, some (.ref F1), some (.ref F2)]) (s4 _ _ hO3) hF4 n4O ⟨_, _, rfl⟩ (fun i hi => idxL_lt (List.mem_of_mem_take hi)) ?_ ?_
          · rintro i σ H' xs N ⟨x5, x6, rfl⟩ hx hxl hi k
            walk_at "p"
            refine w_var rfl (w_sub (w_var rfl (w_var rfl ?_)))
            refine w_setL hx (j := i) (by rw [List.length_map]; unfold ixN; rw [if_pos (by omega), if_pos (by omega)]; simp) ?_
            rw [show V.str z = nmV (some z) from rfl, nm_set]
            exact k _ _ ⟨_, _, rfl⟩ Oth.refl.put upd_same
          · rintro σ H5 ⟨x5, x6, rfl⟩ o5 hO5
            have hF25 := o5 _ _ (s4 _ _ hF23) n2O
            walk_at "g"
            refine w_slLToN (k := n) (lstOf hF25) fun F6 H6 s6 nF6 hF6 => ?_
            rw [natsV_take] at hF6
            have nF60 : H F6 = none := by
              cases e : H F6 with
              | none => rfl
              | some u =>
                exfalso
                by_cases h6 : F6 = O
                · rw [h6, hO5] at nF6
                  cases nF6
                · have := o5 _ _ (s4 _ _ (s03 _ _ e)) h6
                  rw [nF6] at this
                  cases this
            exact q _ H6 (((oth_of (s03.trans s4)).trans o5).same s6) (s6 _ _ hO5) (dpf_nats (nw_none nF60) hF6)
theorem ok__law_hall_do (T : Tx K mg) (B : TLs base mg K tfS) : Ok P w K mg base 7 "_law_hall_do" ["hall", "deed"] (spHDo K tfS) := by
  refine Ok.mkL T.G__law_hall_do T.F__law_hall_do (fun _ _ _ _ _ _ us hl => match us, hl with | [_, _], _ => rfl) sc__law_hall_do (fun vs H Q E h => ?_) (fun A outer s H vs Q E hr h => ?_)
  · obtain ⟨h, L, dl, os, p, w', z, n, rfl, hA, hp, hw, hz, n1, n2, hT, q⟩ := h
    rfl
  · obtain ⟨h, L, dl, os, p, w', z, n, rfl, hA, hp, hw, hz, n1, n2, hT, q⟩ := h
    refine ⟨(tSeq (tIfS (tTest (tOp rEq (tOp (rIxT K) (tVar 1) (tC (.int 0))) (tC (.str "come")))) (tRet (LamX.tLam (tabL K tfS) (toldT K) fun E => (tMeth (He.ga K "Hall") "come" (spHallCome K) [] E (tVar 0) (tCons (tOp (rIxT K) (tVar 1) (tC (.int 1))) (tCons (tOp (rIxT K) (tVar 1) (tC (.int 2))) tNil))))) tNext)
      (tSeq (tIfS (tTest (tOp rEq (tOp (rIxT K) (tVar 1) (tC (.int 0))) (tC (.str "grow")))) (tRet (LamX.tLam (tabL K tfS) (toldT K) fun E => (tMeth (He.ga K "Hall") "grow" (spHallGrow K) [] E (tVar 0) (tCons (tOp (rIxT K) (tVar 1) (tC (.int 1))) (tCons (tOp (rIxT K) (tVar 1) (tC (.int 2))) tNil))))) tNext)
      (tRet (LamX.tLam (tabL K tfS) (toldT K) fun E => (tMeth (He.ga K "Hall") "shrink" (spHallShrink K) [] E (tVar 0) (tCons (tOp (rIxT K) (tVar 1) (tC (.int 1))) (tCons (tOp (rIxT K) (tVar 1) (tC (.int 2))) tNil))))))), (pss_cons (ps_if (pt_cmpR op_eq (pe_ix ix_tup (pv 1) pe_int (fun _ _ => rfl)) pe_str (nomark _)) (pss_one (ps_ret (pe_told (x := "_law_hall_do") T B (by simp) rfl rfl hr (LamX.lamS_by (sc := defScope s__law_hall_do) (by decide +kernel)) rfl (fun _ _ _ _ _ => rfl) (fun _ _ _ _ _ _ _ hr => (pe_m (ok_Hall_come T) T.C_Hall hr (pnx (L2N.takes_of rfl rfl rfl rfl)) (pv 0) (pa_cons (pe_ix ix_tup (pv 1) pe_int (fun _ _ => rfl)) (pa_cons (pe_ix ix_tup (pv 1) pe_int (fun _ _ => rfl)) pa_nil))))))) pss_nil)
      (pss_cons (ps_if (pt_cmpR op_eq (pe_ix ix_tup (pv 1) pe_int (fun _ _ => rfl)) pe_str (nomark _)) (pss_one (ps_ret (pe_told (x := "_law_hall_do") T B (by simp) rfl rfl hr (LamX.lamS_by (sc := defScope s__law_hall_do) (by decide +kernel)) rfl (fun _ _ _ _ _ => rfl) (fun _ _ _ _ _ _ _ hr => (pe_m (ok_Hall_grow T) T.C_Hall hr (pnx (L2N.takes_of rfl rfl rfl rfl)) (pv 0) (pa_cons (pe_ix ix_tup (pv 1) pe_int (fun _ _ => rfl)) (pa_cons (pe_ix ix_tup (pv 1) pe_int (fun _ _ => rfl)) pa_nil))))))) pss_nil)
      (pss_one (ps_ret (pe_told (x := "_law_hall_do") T B (by simp) rfl rfl hr (LamX.lamS_by (sc := defScope s__law_hall_do) (by decide +kernel)) rfl (fun _ _ _ _ _ => rfl) (fun _ _ _ _ _ _ _ hr => (pe_m (ok_Hall_shrink T) T.C_Hall hr (pnx (L2N.takes_of rfl rfl rfl rfl)) (pv 0) (pa_cons (pe_ix ix_tup (pv 1) pe_int (fun _ _ => rfl)) (pa_cons (pe_ix ix_tup (pv 1) pe_int (fun _ _ => rfl)) pa_nil))))))))), ?_⟩
    walk_at "0"
    have hTB := hT
    have hn5 := names5_ok z hz
    have hp0 : ∀ {H1 : Hp}, ExT (tabL K tfS) H H1 → SqT K H1 p [.str w', .str z, .int (n : Nat)] := fun e => tup_eT e (tupOf hp)
    have hkn : isNum (.int (n : Nat)) 1 100 = true := num_nat n1 n2
    have h100 := hA.len
    walk_at "g"
    refine w_ixT (tupOf hp) rfl ?_
    walk_at "g"
    refine if_b (fun hc => ?_) (fun hc => ?_)
    · have hc := of_decide_eq_true hc
      subst hc
      walk_at "p"
      refine w_lam hT fun H1 e1 => ?_
      obtain ⟨dx, vd, hh, hvd⟩ := (hA.eT e1).obj
      refine w_meth (w_var rfl ⟨h, dx, _, rfl, hh, rfl, ?_⟩)
      walk_at "g"
      refine w_ixT (hp0 e1) rfl ?_
      walk_at "g"
      refine w_ixT (hp0 e1) rfl ?_
      walk_at "g"
      refine ⟨h, L, dl, os, .str z, .str z, .int (n : Nat), .int (n : Nat), rfl, hA.eT e1, .str z, fit5 hz, .int _, fun z0 => absurd hn5 (by rw [z0]; simp), fun z' ez _ hin H2 s2 => ?_, fun z' ez _ hin => ?_⟩
      · cases ez
        refine told_no (by decide) (by decide) fun t H3 s3 nt ht => ?_
        have ef : hallF os "come" z n = (refD "Known", os) := by
          unfold hallF
          rw [idx_no, decide_eq_true hin]
          rfl
        rw [ef] at q
        exact q _ H3 (kpb_ref e1 s2 s3) (((hA.eT e1).s s2).s s3).own (ext_tabs s3 (ext_tabs s2 e1.tb)) (dpf_ref ht)
      · cases ez
        have hin' : decide (some z ∈ os) = false := decide_eq_false hin
        refine ⟨fun z0 => absurd hkn (by rw [z0]; simp), fun n' en _ _ hl H2 s2 => ?_, fun n' en _ _ hl F H2 nF ot hL2 hF2 => ?_⟩
        · have en : n = n' := by
            injection en with en
            omega
          subst en
          refine told_no (by decide) (by decide) fun t H3 s3 nt ht => ?_
          have ef : hallF os "come" z n = (refD "Full", os) := by
            unfold hallF
            rw [idx_no, hin', if_neg (by decide), if_neg (by decide), if_pos hl]
          rw [ef] at q
          exact q _ H3 (kpb_ref e1 s2 s3) (((hA.eT e1).s s2).s s3).own (ext_tabs s3 (ext_tabs s2 e1.tb)) (dpf_ref ht)
        · have en : n = n' := by
            injection en with en
            omega
          subst en
          have ef : hallF os "come" z n = (natsD ((idxL os none).take n), setAll os ((idxL os none).take n) (some z)) := by
            unfold hallF
            rw [idx_no, hin', if_neg (by decide), if_neg (by decide), if_neg (by omega)]
          rw [ef] at q
          exact q _ H2 ((kpb_exT e1).trans ot.kpb) hL2 (ot.tabs (hA.eT e1).own e1.tb) (dpf_nats (e1.nw nF) hF2)
    · have hc := of_decide_eq_false hc
      walk_at "g"
      refine w_ixT (tupOf hp) rfl ?_
      walk_at "g"
      have ec : decide (w' = "come") = false := decide_eq_false hc
      refine if_b (fun hg => ?_) (fun hg => ?_)
      · have hg := of_decide_eq_true hg
        subst hg
        walk_at "p"
        refine w_lam hT fun H1 e1 => ?_
        obtain ⟨dx, vd, hh, hvd⟩ := (hA.eT e1).obj
        refine w_meth (w_var rfl ⟨h, dx, _, rfl, hh, rfl, ?_⟩)
        walk_at "g"
        refine w_ixT (hp0 e1) rfl ?_
        walk_at "g"
        refine w_ixT (hp0 e1) rfl ?_
        walk_at "g"
        refine ⟨h, L, dl, os, .str z, .str z, .int (n : Nat), .int (n : Nat), rfl, hA.eT e1, .str z, fit5 hz, .int _, fun hs H2 s2 => ?_, fun z' ez hs => ?_⟩
        · rw [isSw5 hz] at hs
          refine told_no (by decide) (by decide) fun t H3 s3 nt ht => ?_
          have ef : hallF os "grow" z n = (refD "BadName", os) := by
            unfold hallF
            rw [idx_no, hs]
            rfl
          rw [ef] at q
          exact q _ H3 (kpb_ref e1 s2 s3) (((hA.eT e1).s s2).s s3).own (ext_tabs s3 (ext_tabs s2 e1.tb)) (dpf_ref ht)
        · cases ez
          rw [isSw5 hz] at hs
          refine ⟨fun z0 => absurd hkn (by rw [z0]; simp), fun n' en _ _ hl H2 s2 => ?_, fun n' en _ _ hl F H2 nF ot hL2 hF2 => ?_⟩
          · have en : n = n' := by
              injection en with en
              omega
            subst en
            refine told_no (by decide) (by decide) fun t H3 s3 nt ht => ?_
            have ef : hallF os "grow" z n = (refD "Full", os) := by
              unfold hallF
              rw [idx_no, hs, if_neg (by decide), if_neg (by decide), if_pos hl]
            rw [ef] at q
            exact q _ H3 (kpb_ref e1 s2 s3) (((hA.eT e1).s s2).s s3).own (ext_tabs s3 (ext_tabs s2 e1.tb)) (dpf_ref ht)
          · have en : n = n' := by
              injection en with en
              omega
            subst en
            have ef : hallF os "grow" z n = (natsD ((idxL os none).take n), setAll os ((idxL os none).take n) (some z)) := by
              unfold hallF
              rw [idx_no, hs, if_neg (by decide), if_neg (by decide), if_neg (by omega)]
            rw [ef] at q
            exact q _ H2 ((kpb_exT e1).trans ot.kpb) hL2 (ot.tabs (hA.eT e1).own e1.tb) (dpf_nats (e1.nw nF) hF2)
      · have hg := of_decide_eq_false hg
        have hsh : w' = "shrink" := by
          unfold wordsH at hw
          simp only [List.mem_cons, List.not_mem_nil, or_false] at hw
          rcases hw with e | e | e | e | e | e
          · exact absurd e hc
          · exact absurd e hc
          · exact absurd e hg
          · exact absurd e hg
          · exact e
          · exact e
        subst hsh
        walk_at "p"
        refine w_lam hT fun H1 e1 => ?_
        obtain ⟨dx, vd, hh, hvd⟩ := (hA.eT e1).obj
        refine w_meth (w_var rfl ⟨h, dx, _, rfl, hh, rfl, ?_⟩)
        walk_at "g"
        refine w_ixT (hp0 e1) rfl ?_
        walk_at "g"
        refine w_ixT (hp0 e1) rfl ?_
        walk_at "g"
        refine ⟨h, L, dl, os, .str z, .str z, .int (n : Nat), .int (n : Nat), rfl, hA.eT e1, .str z, fit5 hz, .int _, fun hs H2 s2 => ?_, fun z' ez hs hl H2 s2 => ?_, fun z' n' ez hs en _ hl F H2 nF ot hL2 hF2 => ?_⟩
        · rw [isSw5 hz] at hs
          refine told_no (by decide) (by decide) fun t H3 s3 nt ht => ?_
          have ef : hallF os "shrink" z n = (refD "BadName", os) := by
            unfold hallF
            rw [idx_no, hs]
            rfl
          rw [ef] at q
          exact q _ H3 (kpb_ref e1 s2 s3) (((hA.eT e1).s s2).s s3).own (ext_tabs s3 (ext_tabs s2 e1.tb)) (dpf_ref ht)
        · cases ez
          rw [isSw5 hz] at hs
          refine told_no (by decide) (by decide) fun t H3 s3 nt ht => ?_
          have hl : (idxL os (some z)).length < n := by
            have a : (1 : Int) ≤ n := by omega
            simp only [isNum, a, decide_true, Bool.true_and, decide_eq_false_iff_not] at hl
            omega
          have ef : hallF os "shrink" z n = (refD "BadNumber", os) := by
            unfold hallF
            rw [if_neg (by rw [idx_no, hs]; decide), if_pos rfl, if_pos hl]
          rw [ef] at q
          exact q _ H3 (kpb_ref e1 s2 s3) (((hA.eT e1).s s2).s s3).own (ext_tabs s3 (ext_tabs s2 e1.tb)) (dpf_ref ht)
        · cases ez
          rw [isSw5 hz] at hs
          have en : n = n' := by
            injection en with en
            omega
          subst en
          have ef : hallF os "shrink" z n = (natsD ((idxL os (some z)).drop ((idxL os (some z)).length - n)), setAll os ((idxL os (some z)).drop ((idxL os (some z)).length - n)) none) := by
            unfold hallF
            rw [if_neg (by rw [idx_no, hs]; decide), if_pos rfl, if_neg (by omega)]
          rw [ef] at q
          exact q _ H2 ((kpb_exT e1).trans ot.kpb) hL2 (ot.tabs (hA.eT e1).own e1.tb) (dpf_nats (e1.nw nF) hF2)
theorem ok__law_hall_like (T : Tx K mg) : Ok P w K mg base 4 "_law_hall_like" ["hall", "owners"] (spHLike K) := by
  refine Ok.mk' T.G__law_hall_like T.F__law_hall_like (fun _ _ _ _ _ _ us hl => match us, hl with | [_, _], _ => rfl) sc__law_hall_like (fun vs H Q E h => ?_) (fun cdv A outer s H vs Q E hr h => ?_)
  · obtain ⟨h, L, dl, os, O, rfl, hA, hO, h5, q⟩ := h
    rfl
  · obtain ⟨h, L, dl, os, O, rfl, hA, hO, h5, q⟩ := h
    refine ⟨(tSeq (tAsg (tCB (rSortS w) (tCons (tCB (rSetS K w) (tCons (tLc (iList K (tVar 1)) (gName 2) (tTest (tOp oNotN (tVar 2) (tC .non))) (tVar 2) [2]) tNil)) tNil)) (gName 3))
      (tSeq (tIfS (tOr (tTest (tOp (rNeD K) (tMeth (He.ga K "Hall") "names" (spHallNames K) [] E (tVar 0) tNil) (tVar 3))) (tTest (tOp rNe (tCB (rLenO (He.ga K "Hall") (spHallLen K) E) (tCons (tVar 0) tNil)) (tBM K "list" (rCntF K) (tVar 1) (tCons (tC .non) tNil))))) (tRet (tC (.bl false))) tNext)
      (tSeq (tIfS (tTest (tOp (rNeD K) (tLc (iRng1 (tCons (tC (.int 100)) tNil)) (gName 4) tYes (tMeth (He.ga K "Hall") "owner" (spHallOwner K) [] E0 (tVar 0) (tCons (tVar 4) tNil)) [4]) (tVar 1))) (tRet (tC (.bl false))) tNext)
      (tRet (tCB (rAll K) (tCons (tLc (iList K (tVar 3)) (gName 5) tYes (tOp (rEqD K) (tMeth (He.ga K "Hall") "held" (spHallHeld K) [] E0 (tVar 0) (tCons (tVar 5) tNil)) (tLc (iEnum K (tCons (tVar 1) tNil)) (gTup K 2 (gCons (gName 4) (gCons (gName 2) gNil))) (tTest (tOp rEq (tVar 2) (tVar 5))) (tVar 4) [4, 2])) [5]) tNil)))))), (pss_cons (ps_set (i := 3) sc__law_hall_like.nd rfl (by first | exact Or.inl rfl | exact Or.inr rfl) (pe_callB (cr_sortS rfl) (by rfl) T.Z_sorted (by decide +kernel) (pa_cons (pe_callTy (cr_setS rfl) (by rfl) T.Z_set (by decide +kernel) (pa_cons (pe_lc (own := [("one", 2)]) rfl sc__law_hall_like.nd (pi_list (pv 1)) (blkOk_by (own := [("one", 2)]) (N := ["hall", "owners", "one", "some", "at", "name"]) (sc := defScope s__law_hall_like) (by decide +kernel)) (fun _ _ _ _ _ => (pg_name (i := 2) sc__law_hall_like.nd rfl (by first | exact Or.inl rfl | exact Or.inr rfl))) (fun _ _ _ _ _ => (pts_one (pt_cmpR op_notN (pv 2) pe_non (nomark _)))) (fun _ _ _ _ _ => (pv 2))) pa_nil)) pa_nil)))
      (pss_cons (ps_if (PW.pt (pw_or (pt_cmpR (op_neD hr.units) (pe_m0 (ok_Hall_names T) T.C_Hall hr (pnx (L2N.takes_of rfl rfl rfl rfl)) (pv 0)) (pv 3) (nomark _)) (pw_or1 (pt_cmpR op_ne (pe_callB (call_lenO (ok_Hall___len__ T) hr (pnx (L2N.takes_of rfl rfl rfl rfl))) (by rfl) T.Z_len (by decide +kernel) (pa_cons (pv 0) pa_nil)) (pe_bm PySem.F.plainAttrs_list PySem.F.slot_list_count PySem.F.type_list_count mt_cntF (pv 1) (pa_cons pe_non pa_nil)) (nomark _))))) (pss_one (ps_ret pe_bl)) pss_nil)
      (pss_cons (ps_if (pt_cmpR (op_neD hr.units) (pe_lc (own := [("at", 4)]) rfl sc__law_hall_like.nd (pi_range1 (by rfl) T.Z_range (pa_cons pe_int pa_nil)) (blkOk_by (own := [("at", 4)]) (N := ["hall", "owners", "one", "some", "at", "name"]) (sc := defScope s__law_hall_like) (by decide +kernel)) (fun _ _ _ _ _ => (pg_name (i := 4) sc__law_hall_like.nd rfl (by first | exact Or.inl rfl | exact Or.inr rfl))) (fun _ _ _ _ _ => pts_nil) (fun _ _ _ _ _ => (pe_m (ok_Hall_owner T) T.C_Hall hr pn0 (pv 0) (pa_cons (pv 4) pa_nil)))) (pv 1) (nomark _)) (pss_one (ps_ret pe_bl)) pss_nil)
      (pss_one (ps_ret (pe_callB (cr_all rfl) (by rfl) T.Z_all (by decide +kernel) (pa_cons (pe_lc (own := [("name", 5)]) rfl sc__law_hall_like.nd (pi_list (pv 3)) (blkOk_by (own := [("name", 5)]) (N := ["hall", "owners", "one", "some", "at", "name"]) (sc := defScope s__law_hall_like) (by decide +kernel)) (fun _ _ _ _ _ => (pg_name (i := 5) sc__law_hall_like.nd rfl (by first | exact Or.inl rfl | exact Or.inr rfl))) (fun _ _ _ _ _ => pts_nil) (fun _ _ _ _ _ => (pe_cmpR (op_eqD hr.units) (pe_m (ok_Hall_held T) T.C_Hall hr pn0 (pv 0) (pa_cons (pv 5) pa_nil)) (pe_lc (own := [("at", 4), ("one", 2)]) rfl sc__law_hall_like.nd (pi_enum (by rfl) T.Z_enumerate (pa_cons (pv 1) pa_nil)) (blkOk_in (own := [("at", 4), ("one", 2)]) (N := ["hall", "owners", "one", "some", "at", "name"]) (sc := ({ kind := PySem.ScopeKind.function, names := [ (PySem.Str.ofString ".0", PySem.NameKind.local), (PySem.Str.ofString "name", PySem.NameKind.cell), (PySem.Str.ofString "enumerate", PySem.NameKind.globalImplicit), (PySem.Str.ofString "hall", PySem.NameKind.free), (PySem.Str.ofString "owners", PySem.NameKind.free)], isGenerator := false, isCoroutine := false, more := [] : PySem.Scope })) (by decide +kernel)) (fun _ _ _ _ _ => (pg_tup (by rfl) (pgs_cons (pg_name (i := 4) sc__law_hall_like.nd rfl (by first | exact Or.inl rfl | exact Or.inr rfl)) (pgs_cons (pg_name (i := 2) sc__law_hall_like.nd rfl (by first | exact Or.inl rfl | exact Or.inr rfl)) pgs_nil)))) (fun _ _ _ _ _ => (pts_one (pt_cmpR op_eq (pv 2) (pv 5) (nomark _)))) (fun _ _ _ _ _ => (pv 4))) (nomark _)))) pa_nil))))))), ?_⟩
    walk_at "0"
    have h100 := hA.len
    walk_at "g"
    refine ⟨⟨_, lstOf hO⟩, ?_⟩
    refine lc_names hO (by omega) (fun _ => rfl) (fun _ => rfl) fun D H1 nD s1 hD => ?_
    refine w_nil ?_
    refine w_sortNames hD (by omega) h5 (by decide) (fun _ _ hx => w_nil hx) fun ys S H2 nS s2 hs hnd hmem hS => ?_
    have s02 := s1.trans s2
    have hA2 := hA.s s02
    obtain ⟨dx, vd, hh, hvd⟩ := hA2.obj
    have hO2 := s02 _ _ hO
    have hys5 : ∀ z ∈ ys, z ∈ names5 := fun z hz => h5 z ((hmem z).mp hz)
    have gys := gd_strs hys5 (nd5_len hnd hys5)
    walk_at "g"
    refine w_meth (w_var rfl ⟨h, dx, _, rfl, hh, rfl, w_nil ⟨h, L, dl, os, names5, rfl, hA2, h5, by decide, fun ys' F H3 nF s3 hs' hnd' hmem' hF => ?_⟩⟩)
    cases sorted_uniq hs' hs hnd' hnd fun z => by rw [hmem' z, hmem z]
    walk_at "g"
    refine w_neD (.lst (lstOf hF) (dps_strs ys)) (.lst (lstOf (s3 _ _ hS)) (dps_strs ys)) gys.sh gys.sh ?_
    rw [eqv_strs]
    walk_at "g"
    have hA3 := hA2.s s3
    have hO3 := s3 _ _ hO2
    obtain ⟨dx3, vd3, hh3, hvd3⟩ := hA3.obj
    refine ⟨h, dx3, _, rfl, hh3, h, L, dl, os, rfl, hA3, fun H4 s4 => ⟨_, rfl, by have := idxL_le os none; omega, ?_⟩⟩
    have hO4 := s4 _ _ hO3
    walk_at "g"
    refine ⟨tyL hO4, ?_⟩
    walk_at "g"
    refine ⟨O, _, .non, rfl, rfl, lstOf hO4, rfl, nm_flat os, ?_⟩
    have ecnt : (os.map nmV).countP (fun z => eqV z .non) = (idxL os none).length := by
      rw [idxL_len, List.countP_map]
      apply List.countP_congr
      intro o _
      cases o <;> simp [nmV, eqV, Function.comp]
    rw [ecnt]
    walk_at "g"
    rw [decide_eq_true rfl]
    walk_at "g"
    have hA4 := hA3.s s4
    obtain ⟨dx4, vd4, hh4, hvd4⟩ := hA4.obj
    refine ⟨by decide, by decide, ?_⟩
    refine lc_pure walk_range (by decide) ((List.range 100).map fun i => [nmV (os.getD i none)]) (by simp) (fun _ _ => trivial) ?_ ?_
    · rintro C j acc y G' G'' hC hj hacc hG' iv ⟨rfl, rfl⟩
      have hj : j < 100 := hj
      walk_at "g"
      refine ⟨rfl, ?_⟩
      walk_at "g"
      refine w_meth (w_var rfl ⟨h, dx4, _, rfl, iv.1 _ _ hh4, rfl, ?_⟩)
      walk_at "g"
      rw [Int.zero_add]
      refine ⟨h, L, dl, os, .int (j : Nat), .int (j : Nat), rfl, hA4.s iv.1, .int _, fun n en hn => ?_, fun z => ?_⟩
      · have en : j = n := by
          injection en with en
          omega
        subst en
        refine lcp_nx hC (by omega) hacc hG' iv (Same.refl _) ?_
        rw [List.getElem?_map, List.getElem?_range hj]
        rfl
      · exfalso
        have a : (0 : Int) ≤ j := by omega
        have b : (j : Int) ≤ 99 := by omega
        simp [isNum, a, b] at z
    · intro C H5 nC s5 hC
      rw [flat_one (fun i : Nat => nmV (os.getD i none))] at hC
      have hC : H5 C = some (.lst (os.map nmV)) := by
        rw [hC]
        conv => rhs; rw [os_map os, List.map_map, h100]
        rfl
      have hO5 := s5 _ _ hO4
      walk_at "g"
      have gos := gd_nms h5 (by omega : os.length ≤ 1000)
      refine w_neD (.lst (lstOf hC) (dps_nm os)) (.lst (lstOf hO5) (dps_nm os)) gos.sh gos.sh ?_
      rw [eqv_nms]
      walk_at "g"
      have hS5 := s5 _ _ (s4 _ _ (s3 _ _ hS))
      have hA5 := hA4.s s5
      refine ⟨⟨_, lstOf hS5⟩, ?_⟩
      have hyl := nd5_len hnd hys5
      refine lc_pure (walk_list (K := K) (a := S) (xs := ys.map V.str)) (by rw [List.length_map]; omega) (ys.map fun _ => [V.bl true]) (by simp) (fun H' s => lstOf (s _ _ hS5)) ?_ ?_
      · rintro C2 j acc y G' G'' hC2 hj hacc hG' iv ⟨rfl, hy⟩
        rw [List.getElem?_map] at hy
        obtain ⟨z, hz, rfl⟩ := Option.map_eq_some_iff.mp hy
        rw [List.length_map] at hj
        have hzm := List.mem_of_getElem? hz
        have hAg := hA5.s iv.1
        obtain ⟨dx6, vd6, hh6, hvd6⟩ := hAg.obj
        have hsw : isSw os (.str z) = true := by rw [isSw5 (hys5 z hzm)]; exact decide_eq_true ((hmem z).mp hzm)
        walk_at "g"
        refine ⟨rfl, ?_⟩
        walk_at "g"
        refine w_meth (w_var rfl ⟨h, dx6, _, rfl, hh6, rfl, ?_⟩)
        walk_at "g"
        refine ⟨h, L, dl, os, .str z, .str z, rfl, hAg, .str z, fit5 (hys5 z hzm), fun z' ez _ F6 H6 nF6 s6 hF6 => ?_, fun z0 => absurd hsw (by rw [z0]; simp)⟩
        cases ez
        have hO6 := s6 _ _ (iv.1 _ _ hO5)
        walk_at "g"
        refine ⟨O, _, rfl, lstOf hO6, ?_⟩
        refine lc_idx (o := some z) hO6 (by omega) (fun i T' x H' Qb s7 hT' k => ?_) fun F7 H7 nF7 s7 hF7 => ?_
        · refine w_gtup (tupOf hT') rfl ?_
          walk_at "g"
          refine ⟨rfl, ?_⟩
          walk_at "g"
          refine w_eq (nm_scal x z) ?_
          rw [nm_some]
          walk_at "g"
          exact k _ fun Qv hq => w_var rfl hq
        · have gi := natsD_gd (idxL os (some z)) (by have := idxL_le os (some z); omega)
          refine w_eqD (dpf_nats (H0 := fun _ => none) (nw_none rfl) (s7 _ _ hF6)).dp (dpf_nats (H0 := fun _ => none) (nw_none rfl) hF7).dp gi.sh gi.sh ?_
          rw [eqv_nats]
          refine lcp_nx hC2 (by omega) hacc hG' iv (s6.trans s7) ?_
          rw [List.getElem?_map, hz]
          rfl
      · intro C2 H6 nC2 s6 hC2
        rw [flat_one (fun _ : Str => V.bl true)] at hC2
        have hC2 : H6 C2 = some (.lst ((ys.map fun _ => true).map V.bl)) := by
          rw [hC2, List.map_map]
          rfl
        walk_at "g"
        refine w_all (lstOf hC2) ?_
        have e : (ys.map fun _ => true).all id = true := by simp
        rw [e]
        exact q _ ((((s02.trans s3).trans s4).trans s5).trans s6)
theorem nat_uniq : ∀ {a b : List Nat}, a.Pairwise (· < ·) → b.Pairwise (· < ·) → (∀ z, z ∈ a ↔ z ∈ b) → a = b
  | [], [], _, _, _ => rfl
  | [], y :: b, _, _, h => absurd ((h y).mpr (by simp)) (by simp)
  | x :: a, [], _, _, h => absurd ((h x).mp (by simp)) (by simp)
  | x :: a, y :: b, ha, hb, h => by
    rw [List.pairwise_cons] at ha hb
    have e : x = y := by
      rcases List.mem_cons.mp ((h x).mp (by simp)) with e | hx
      · exact e
      · rcases List.mem_cons.mp ((h y).mpr (by simp)) with e | hy
        · exact e.symm
        · have := ha.1 y hy
          have := hb.1 x hx
          omega
    subst e
    rw [nat_uniq ha.2 hb.2 fun z => ?_]
    constructor
    · intro hz
      rcases List.mem_cons.mp ((h z).mp (by simp [hz])) with e | hz'
      · subst e
        have := ha.1 z hz
        omega
      · exact hz'
    · intro hz
      rcases List.mem_cons.mp ((h z).mpr (by simp [hz])) with e | hz'
      · subst e
        have := hb.1 z hz
        omega
      · exact hz'
theorem idxL_up (os : List (Option Str)) (o : Option Str) : (idxL os o).Pairwise (· < ·) := List.Pairwise.filter _ List.pairwise_lt_range
theorem setAll_at {o : Option Str} : ∀ {is : List Nat} {os : List (Option Str)} {i : Nat}, i < os.length → (setAll os is o).getD i none = if i ∈ is then o else os.getD i none
  | [], _, _, _ => by simp [setAll]
  | j :: is, os, i, h => by
    show (setAll (os.set j o) is o).getD i none = _
    rw [setAll_at (by rw [List.length_set]; exact h)]
    by_cases hi : i ∈ is
    · rw [if_pos hi, if_pos (by simp [hi])]
    · rw [if_neg hi]
      by_cases e : i = j
      · subst e
        rw [if_pos (by simp), List.getD_eq_getElem?_getD, List.getElem?_set_self h]
        rfl
      · rw [if_neg (by simp [e, hi]), List.getD_eq_getElem?_getD, List.getElem?_set_ne (fun z => e z.symm), ← List.getD_eq_getElem?_getD]
/-- what is owned stays owned -/
def Grows (os os' : List (Option Str)) : Prop := ∀ i z, os.getD i none = some z → os'.getD i none = some z
theorem grows_hallF {os : List (Option Str)} {w z : Str} {n : Nat} (h : w ≠ "shrink") : Grows os (hallF os w z n).2 := fun i y hy => by
  have hi : i < os.length := by
    rcases Nat.lt_or_ge i os.length with h | h
    · exact h
    · rw [List.getD_eq_getElem?_getD, List.getElem?_eq_none h] at hy
      cases hy
  unfold hallF
  split
  · exact hy
  · try rw [if_neg h]
    split
    · exact hy
    · rw [setAll_at hi, if_neg (fun z => ?_)]
      · exact hy
      · have := idxL_at (List.mem_of_mem_take z)
        rw [hy] at this
        cases this
theorem os_ext {a b : List (Option Str)} (hl : a.length = b.length) (h : ∀ i, i < a.length → a.getD i none = b.getD i none) : a = b := by
  apply List.ext_getElem hl
  intro i h1 h2
  have := h i h1
  rw [List.getD_eq_getElem?_getD, List.getD_eq_getElem?_getD, List.getElem?_eq_getElem h1, List.getElem?_eq_getElem h2] at this
  exact this
theorem back_same {os : List (Option Str)} {z : Str} {n : Nat} : setAll (setAll os ((idxL os none).take n) (some z)) ((idxL os none).take n) none = os := by
  refine os_ext (by rw [setAll_len, setAll_len]) fun i hi => ?_
  rw [setAll_len, setAll_len] at hi
  rw [setAll_at (by rw [setAll_len]; exact hi), setAll_at hi]
  split
  · rename_i h
    exact (idxL_at (List.mem_of_mem_take h)).symm
  · rfl
theorem idx_grown {os : List (Option Str)} {z : Str} {n : Nat} (h : ∀ i ∈ (idxL os none).take n, ∀ j ∈ idxL os (some z), j < i) : idxL (setAll os ((idxL os none).take n) (some z)) (some z) = idxL os (some z) ++ (idxL os none).take n := by
  refine nat_uniq (idxL_up _ _) ?_ fun i => ?_
  · rw [List.pairwise_append]
    exact ⟨idxL_up _ _, (idxL_up os none).sublist (List.take_sublist _ _), fun j hj i hi => h i hi j hj⟩
  · rw [List.mem_append]
    constructor
    · intro hi
      have h1 := idxL_lt hi
      rw [setAll_len] at h1
      have h2 := idxL_at hi
      rw [setAll_at h1] at h2
      split at h2
      · rename_i h3
        exact .inr h3
      · exact .inl (idxL_mem h1 h2)
    · rintro (hi | hi)
      · have h1 := idxL_lt hi
        refine idxL_mem (by rw [setAll_len]; exact h1) ?_
        rw [setAll_at h1]
        split
        · rfl
        · exact idxL_at hi
      · have h1 := idxL_lt (List.mem_of_mem_take hi)
        refine idxL_mem (by rw [setAll_len]; exact h1) ?_
        rw [setAll_at h1, if_pos hi]
theorem count_all : ∀ {os : List (Option Str)} {ys : List Str}, ys.Nodup → (∀ z, some z ∈ os → z ∈ ys) → (ys.map fun z => os.countP fun x => decide (x = some z)).sum + (os.countP fun x => decide (x = none)) = os.length
  | [], ys, _, _ => by
    have : ∀ l : List Str, (l.map fun _ : Str => 0).sum = 0 := fun l => by
      induction l with
      | nil => rfl
      | cons y l ih => simpa using ih
    simpa using this ys
  | o :: os, ys, nd, h => by
    have ih := count_all (os := os) (ys := ys) nd fun z hz => h z (by simp [hz])
    have gen : ∀ l : List Str, l.Nodup → (l.map fun z => (o :: os).countP fun x => decide (x = some z)).sum = (l.map fun z => os.countP fun x => decide (x = some z)).sum + (if ∃ z ∈ l, o = some z then 1 else 0) := by
      intro l
      induction l with
      | nil => intro _; simp
      | cons y l ih2 =>
        intro nd2
        rw [List.nodup_cons] at nd2
        rw [List.map_cons, List.sum_cons, List.map_cons, List.sum_cons, ih2 nd2.2, List.countP_cons]
        by_cases e : o = some y
        · have hn : ¬ ∃ z ∈ l, o = some z := fun ⟨z, hz, e2⟩ => by
            rw [e] at e2
            injection e2 with e2
            exact nd2.1 (e2 ▸ hz)
          rw [if_neg hn, if_pos (decide_eq_true e), if_pos ⟨y, by simp, e⟩]
          omega
        · rw [if_neg (by simpa using e)]
          by_cases hx : ∃ z ∈ l, o = some z
          · obtain ⟨z, hz, e2⟩ := hx
            rw [if_pos ⟨z, hz, e2⟩, if_pos ⟨z, by simp [hz], e2⟩]
            omega
          · rw [if_neg hx, if_neg fun ⟨z, hz, e2⟩ => by
              rcases List.mem_cons.mp hz with rfl | hz
              · exact e e2
              · exact hx ⟨z, hz, e2⟩]
            omega
    rw [gen ys nd, List.countP_cons, List.length_cons]
    cases o with
    | none =>
      rw [if_neg (by simp)]
      simp
      omega
    | some z =>
      rw [if_pos ⟨z, h z (by simp), rfl⟩]
      simp
      omega
theorem sum_cast (os : List (Option Str)) : ∀ ys : List Str, (ys.map fun z => ((idxL os (some z)).length : Int)).sum = (((ys.map fun z => os.countP fun x => decide (x = some z)).sum : Nat) : Int)
  | [] => rfl
  | y :: ys => by
    rw [List.map_cons, List.sum_cons, sum_cast os ys, List.map_cons, List.sum_cons, idxL_len]
    omega
theorem keepL {K : PySem.W.Frag} {A : Addr → Prop} {H H2 : Hp} {P : Addr} {acc : List V} {ds : List PyData} (k : KpB A H H2) (l : LsA A H) (n : ¬ A P) (im : immAll ds = true) (h : H P = some (.lst acc) ∧ DpAll K H acc ds) : H2 P = some (.lst acc) ∧ DpAll K H2 acc ds :=
  ⟨k _ _ h.1 n (fun ps z => by cases z), dps_tups (fun b xs s => kpb_sqT k l s) im h.2⟩
theorem keepS {K : PySem.W.Frag} {H H2 : Hp} {P : Addr} {acc : List V} {ds : List PyData} (s : Same H H2) (h : H P = some (.lst acc) ∧ DpAll K H acc ds) : H2 P = some (.lst acc) ∧ DpAll K H2 acc ds := ⟨s _ _ h.1, dps_s s h.2⟩
def ofF (os : List (Option Str)) (dl u : PyData) : Option Str := os.getD (placeD u dl).toNat none
def hadD (os : List (Option Str)) (dl : PyData) (us : List PyData) : List PyData := (us.filter fun u => decide (ofF os dl u ≠ none)).map fun u => .tuple [u, nmD (ofF os dl u)]
def sndO (os : List (Option Str)) (dl : PyData) : PyData → Option Str
  | .tuple [u, _] => ofF os dl u
  | _ => none
theorem nm_dp {K : PySem.W.Frag} {H : Hp} (o : Option Str) : Dp K H (nmV o) (nmD o) := by
  cases o with
  | none => exact .non
  | some z => exact .str z
theorem nm_scal2 (o p : Option Str) : scal (nmV o) (nmV p) = true := by
  cases o <;> cases p <;> rfl
theorem isUser_imm {d : PyData} (h : isUser d = true) : imm d = true := by
  obtain ⟨n, l, p, rfl, _⟩ := isUser_is h
  rfl
theorem had_imm {os : List (Option Str)} {dl : PyData} {us : List PyData} (h : ∀ u ∈ us, isUser u = true) : immAll (hadD os dl us) = true := immAll_mem fun d hd => by
  obtain ⟨u, hu, rfl⟩ := List.mem_map.mp hd
  have h1 := isUser_imm (h u (List.mem_filter.mp hu).1)
  cases e : ofF os dl u <;> simp [nmD, imm, immAll, h1]
theorem dp_nmV {K : PySem.W.Frag} {H : Hp} {v : V} {o : Option Str} (h : Dp K H v (nmD o)) : v = nmV o := by
  cases o with
  | none => cases h; rfl
  | some z => cases h; rfl
theorem ok_law (T : Tx K mg) (B : TLs base mg K tfS) : Ok P w K mg base 8 "law" ["script"] (spLawT K tfS) := by
  refine Ok.mk' T.G_law T.F_law (fun _ _ _ _ _ _ us hl => match us, hl with | [_], _ => rfl) sc_law (fun vs H Q E h => ?_) (fun cdv A outer s H vs Q E hr h => ?_)
  · obtain ⟨a, ns, rfl, hS, hl, hT, q⟩ := h
    rfl
  · obtain ⟨a, ns, rfl, hS, hl, hT, q⟩ := h
    refine ⟨(tSeq (tFor (iList K (tCall (spRounds K) [] E (tCons (tVar 0) (tCons (tC (.int 3)) tNil)))) (gName 1) (tSeq (tAsg (tCall (spDeal K) [] E (tCons (tVar 1) tNil)) (gName 2))
      (tSeq (tAsg (tTup (tCons (tMake (He.ga K "Hall") (spHallInit K) [] E (tCons (tVar 2) tNil)) (tCons (tOp rRep (tLst (tCons (tC .non) tNil)) (tC (.int 100))) tNil))) (gTup K 2 (gCons (gName 3) (gCons (gName 4) gNil))))
      (tSeq (tFor (iRng1 (tCons (tCall (spRoll) [] E (tCons (tVar 1) (tCons (tC (.int 11)) tNil))) tNil)) (gName 5) (tSeq (tAsg (tCall (spHDeed K) [] E (tCons (tVar 1) (tCons (tVar 4) tNil))) (gName 6))
      (tIfS (tTest (tOp (rNeD K) (tCall (spHDo K tfS) [] E (tCons (tVar 3) (tCons (tVar 6) tNil))) (tCall (spHDue K) [] E (tCons (tVar 4) (tCons (tVar 6) tNil))))) (tRet (tC (.bl false))) tNext)))
      (tSeq (tAsg (tLc (iRng1 (tCons (tC (.int 12)) tNil)) (gName 5) tYes (tCall (spUser K) [] E0 (tCons (tVar 1) tNil)) [5]) (gName 7))
      (tSeq (tFor (iList K (tVar 7)) (gName 8) (tSeq (tAsg (tOp oMod (tOp oAdd (tOp oMul (tOp (rIxT K) (tVar 8) (tC (.int 0))) (tOp (rIxT K) (tVar 2) (tC (.int 0)))) (tOp (rIxT K) (tVar 2) (tC (.int 1)))) (tC (.int 100))) (gName 9))
      (tIfS (tTest (tOp rNe (tMeth (He.ga K "Hall") "of" (spHallOf K) [] E (tVar 3) (tCons (tVar 8) tNil)) (tOp (rIxL K) (tVar 4) (tVar 9)))) (tRet (tC (.bl false))) tNext)))
      (tSeq (tAsg (tLc (iList K (tVar 7)) (gName 8) (tTest (tOp oNotN (tMeth (He.ga K "Hall") "of" (spHallOf K) [] E0 (tVar 3) (tCons (tVar 8) tNil)) (tC .non))) (tTup (tCons (tVar 8) (tCons (tMeth (He.ga K "Hall") "of" (spHallOf K) [] E0 (tVar 3) (tCons (tVar 8) tNil)) tNil))) [8]) (gName 10))
      (tSeq (tFor (iRng1 (tCons (tC (.int 4)) tNil)) (gName 5) (tSeq (tAsg (tCall (spHDeed K) [] E (tCons (tVar 1) (tCons (tVar 4) tNil))) (gName 6))
      (tIfS (tAnd (tTest (tOp rNe (tOp (rIxT K) (tVar 6) (tC (.int 0))) (tC (.str "shrink")))) (tTest (tOp (rNeD K) (tCall (spHDo K tfS) [] E (tCons (tVar 3) (tCons (tVar 6) tNil))) (tCall (spHDue K) [] E (tCons (tVar 4) (tCons (tVar 6) tNil)))))) (tRet (tC (.bl false))) tNext)))
      (tSeq (tIfS (tTest (tOp (rNeD K) (tLc (iList K (tVar 10)) (gTup K 2 (gCons (gName 8) (gCons (gName 11) gNil))) tYes (tMeth (He.ga K "Hall") "of" (spHallOf K) [] E0 (tVar 3) (tCons (tVar 8) tNil)) [8, 11]) (tLc (iList K (tVar 10)) (gTup K 2 (gCons (gName 8) (gCons (gName 11) gNil))) tYes (tVar 11) [8, 11]))) (tRet (tC (.bl false))) tNext)
      (tSeq (tIfS (tTest (tOp rNe (tOp oAdd (tCB (rSum K) (tCons (tLc (iList K (tMeth (He.ga K "Hall") "names" (spHallNames K) [] E (tVar 3) tNil)) (gName 11) tYes (tCB (cLen K) (tCons (tMeth (He.ga K "Hall") "held" (spHallHeld K) [] E0 (tVar 3) (tCons (tVar 11) tNil)) tNil)) [11]) tNil)) (tCB (rLenO (He.ga K "Hall") (spHallLen K) E) (tCons (tVar 3) tNil))) (tC (.int 100)))) (tRet (tC (.bl false))) tNext)
      (tIfS (tAnd (tTest (tOp (rNeD K) (tMeth (He.ga K "Hall") "names" (spHallNames K) [] E (tVar 3) tNil) (tLst tNil))) (tTest (tOp oGt (tCB (rLenO (He.ga K "Hall") (spHallLen K) E) (tCons (tVar 3) tNil)) (tC (.int 0))))) (tSeq (tAsg (tTup (tCons (tOp (rIxL K) (tMeth (He.ga K "Hall") "names" (spHallNames K) [] E (tVar 3) tNil) (tC (.int 0))) (tCons (tOp oAdd (tC (.int 1)) (tCall (spRoll) [] E (tCons (tVar 1) (tCons (tCB (rLenO (He.ga K "Hall") (spHallLen K) E) (tCons (tVar 3) tNil)) tNil)))) (tCons (tCB (cList K) (tCons (tVar 4) tNil)) tNil)))) (gTup K 3 (gCons (gName 11) (gCons (gName 12) (gCons (gName 13) gNil)))))
      (tSeq (tAsg (tMeth (He.ga K "Hall") "grow" (spHallGrow K) [] E (tVar 3) (tCons (tVar 11) (tCons (tVar 12) tNil))) (gName 14))
      (tSeq (tAsg (tLc (iEnum K (tCons (tVar 13) tNil)) (gTup K 2 (gCons (gName 15) (gCons (gName 16) gNil))) (tTest (tOp rEq (tVar 16) (tVar 11))) (tVar 15) [15, 16]) (gName 9))
      (tIfS (tTest (tOp oGt (tCB (rMin K) (tCons (tVar 14) tNil)) (tCB (rMax K) (tCons (tVar 9) tNil)))) (tIfS (tOr (tTest (tOp (rNeD K) (tMeth (He.ga K "Hall") "shrink" (spHallShrink K) [] E (tVar 3) (tCons (tVar 11) (tCons (tVar 12) tNil))) (tVar 14))) (tNot (tB (tCall (spHLike K) [] E (tCons (tVar 3) (tCons (tVar 13) tNil)))))) (tRet (tC (.bl false))) tNext) tNext)))) tNext)))))))))))
      (tRet (tC (.bl true)))), (pss_cons (ps_for (passes_of rfl) rfl (pi_list (pe_f (ok__law_rounds T) hr (pnx (L2N.takes_of rfl rfl rfl rfl)) (pa_cons (pv 0) (pa_cons pe_int pa_nil)))) (pg_name (i := 1) sc_law.nd rfl (by first | exact Or.inl rfl | exact Or.inr rfl)) (pss_cons (ps_set (i := 2) sc_law.nd rfl (by first | exact Or.inl rfl | exact Or.inr rfl) (pe_f (ok__law_deal T) hr (pnx (L2N.takes_of rfl rfl rfl rfl)) (pa_cons (pv 1) pa_nil)))
      (pss_cons (ps_asg (pe_tup (pa_cons (pe_new (ok_Hall___init__ T) T.K_Hall T.G_Hall hr (pnx (L2N.takes_of rfl rfl rfl rfl)) (pa_cons (pv 2) pa_nil)) (pa_cons (pe_op op_rep (pe_lst (pa_cons pe_non pa_nil)) pe_int) pa_nil))) (pg_tup (by rfl) (pgs_cons (pg_name (i := 3) sc_law.nd rfl (by first | exact Or.inl rfl | exact Or.inr rfl)) (pgs_cons (pg_name (i := 4) sc_law.nd rfl (by first | exact Or.inl rfl | exact Or.inr rfl)) pgs_nil))))
      (pss_cons (ps_for (passes_of rfl) rfl (pi_range1 (by rfl) T.Z_range (pa_cons (pe_f (ok__law_roll T) hr (pnx (L2N.takes_of rfl rfl rfl rfl)) (pa_cons (pv 1) (pa_cons pe_int pa_nil))) pa_nil)) (pg_name (i := 5) sc_law.nd rfl (by first | exact Or.inl rfl | exact Or.inr rfl)) (pss_cons (ps_set (i := 6) sc_law.nd rfl (by first | exact Or.inl rfl | exact Or.inr rfl) (pe_f (ok__law_hall_deed T) hr (pnx (L2N.takes_of rfl rfl rfl rfl)) (pa_cons (pv 1) (pa_cons (pv 4) pa_nil))))
      (pss_one (ps_if (pt_cmpR (op_neD hr.units) (pe_f (ok__law_hall_do T B) hr (pnx (L2N.takes_of rfl rfl rfl rfl)) (pa_cons (pv 3) (pa_cons (pv 6) pa_nil))) (pe_f (ok__law_hall_due T) hr (pnx (L2N.takes_of rfl rfl rfl rfl)) (pa_cons (pv 4) (pa_cons (pv 6) pa_nil))) (nomark _)) (pss_one (ps_ret pe_bl)) pss_nil))))
      (pss_cons (ps_setLc (i := 7) (own := [("turn", 5)]) rfl sc_law.nd rfl rfl (sw_true rfl rfl rfl (by decide +kernel)) (pi_range1 (by rfl) T.Z_range (pa_cons pe_int pa_nil)) (blkOk_by (own := [("turn", 5)]) (N := ["script", "dice", "deal", "hall", "owners", "turn", "deed", "users", "user", "own", "had", "name", "many", "kept", "some", "at", "one"]) (sc := defScope s_law) (by decide +kernel)) (fun _ _ _ _ _ => (pg_name (i := 5) sc_law.nd rfl (by first | exact Or.inl rfl | exact Or.inr rfl))) (fun _ _ _ _ _ => pts_nil) (fun _ _ _ _ _ => (pe_f (ok__law_user T) hr pn0 (pa_cons (pv 1) pa_nil))))
      (pss_cons (ps_for (passes_of rfl) rfl (pi_list (pv 7)) (pg_name (i := 8) sc_law.nd rfl (by first | exact Or.inl rfl | exact Or.inr rfl)) (pss_cons (ps_set (i := 9) sc_law.nd rfl (by first | exact Or.inl rfl | exact Or.inr rfl) (pe_op op_mod (pe_op op_add (pe_op op_mul (pe_ix ix_tup (pv 8) pe_int (fun _ _ => rfl)) (pe_ix ix_tup (pv 2) pe_int (fun _ _ => rfl))) (pe_ix ix_tup (pv 2) pe_int (fun _ _ => rfl))) pe_int))
      (pss_one (ps_if (pt_cmpR op_ne (pe_m (ok_Hall_of T) T.C_Hall hr (pnx (L2N.takes_of rfl rfl rfl rfl)) (pv 3) (pa_cons (pv 8) pa_nil)) (pe_ix ix_list (pv 4) (pv 9) (fun _ _ => rfl)) (nomark _)) (pss_one (ps_ret pe_bl)) pss_nil))))
      (pss_cons (ps_setLc (i := 10) (own := [("user", 8)]) rfl sc_law.nd rfl rfl (sw_true rfl rfl rfl (by decide +kernel)) (pi_list (pv 7)) (blkOk_by (own := [("user", 8)]) (N := ["script", "dice", "deal", "hall", "owners", "turn", "deed", "users", "user", "own", "had", "name", "many", "kept", "some", "at", "one"]) (sc := defScope s_law) (by decide +kernel)) (fun _ _ _ _ _ => (pg_name (i := 8) sc_law.nd rfl (by first | exact Or.inl rfl | exact Or.inr rfl))) (fun _ _ _ _ _ => (pts_one (pt_cmpR op_notN (pe_m (ok_Hall_of T) T.C_Hall hr pn0 (pv 3) (pa_cons (pv 8) pa_nil)) pe_non (nomark _)))) (fun _ _ _ _ _ => (pe_tup (pa_cons (pv 8) (pa_cons (pe_m (ok_Hall_of T) T.C_Hall hr pn0 (pv 3) (pa_cons (pv 8) pa_nil)) pa_nil)))))
      (pss_cons (ps_for (passes_of rfl) rfl (pi_range1 (by rfl) T.Z_range (pa_cons pe_int pa_nil)) (pg_name (i := 5) sc_law.nd rfl (by first | exact Or.inl rfl | exact Or.inr rfl)) (pss_cons (ps_set (i := 6) sc_law.nd rfl (by first | exact Or.inl rfl | exact Or.inr rfl) (pe_f (ok__law_hall_deed T) hr (pnx (L2N.takes_of rfl rfl rfl rfl)) (pa_cons (pv 1) (pa_cons (pv 4) pa_nil))))
      (pss_one (ps_if (PW.pt (pw_and (pt_cmpR op_ne (pe_ix ix_tup (pv 6) pe_int (fun _ _ => rfl)) pe_str (nomark _)) (pw_and1 (pt_cmpR (op_neD hr.units) (pe_f (ok__law_hall_do T B) hr (pnx (L2N.takes_of rfl rfl rfl rfl)) (pa_cons (pv 3) (pa_cons (pv 6) pa_nil))) (pe_f (ok__law_hall_due T) hr (pnx (L2N.takes_of rfl rfl rfl rfl)) (pa_cons (pv 4) (pa_cons (pv 6) pa_nil))) (nomark _))))) (pss_one (ps_ret pe_bl)) pss_nil))))
      (pss_cons (ps_if (pt_cmpR (op_neD hr.units) (pe_lc (own := [("user", 8), ("name", 11)]) rfl sc_law.nd (pi_list (pv 10)) (blkOk_by (own := [("user", 8), ("name", 11)]) (N := ["script", "dice", "deal", "hall", "owners", "turn", "deed", "users", "user", "own", "had", "name", "many", "kept", "some", "at", "one"]) (sc := defScope s_law) (by decide +kernel)) (fun _ _ _ _ _ => (pg_tup (by rfl) (pgs_cons (pg_name (i := 8) sc_law.nd rfl (by first | exact Or.inl rfl | exact Or.inr rfl)) (pgs_cons (pg_name (i := 11) sc_law.nd rfl (by first | exact Or.inl rfl | exact Or.inr rfl)) pgs_nil)))) (fun _ _ _ _ _ => pts_nil) (fun _ _ _ _ _ => (pe_m (ok_Hall_of T) T.C_Hall hr pn0 (pv 3) (pa_cons (pv 8) pa_nil)))) (pe_lc (own := [("user", 8), ("name", 11)]) rfl sc_law.nd (pi_list (pv 10)) (blkOk_by (own := [("user", 8), ("name", 11)]) (N := ["script", "dice", "deal", "hall", "owners", "turn", "deed", "users", "user", "own", "had", "name", "many", "kept", "some", "at", "one"]) (sc := defScope s_law) (by decide +kernel)) (fun _ _ _ _ _ => (pg_tup (by rfl) (pgs_cons (pg_name (i := 8) sc_law.nd rfl (by first | exact Or.inl rfl | exact Or.inr rfl)) (pgs_cons (pg_name (i := 11) sc_law.nd rfl (by first | exact Or.inl rfl | exact Or.inr rfl)) pgs_nil)))) (fun _ _ _ _ _ => pts_nil) (fun _ _ _ _ _ => (pv 11))) (nomark _)) (pss_one (ps_ret pe_bl)) pss_nil)
      (pss_cons (ps_if (pt_cmpR op_ne (pe_op op_add (pe_callB (cr_sum rfl) (by rfl) T.Z_sum (by decide +kernel) (pa_cons (pe_lc (own := [("name", 11)]) rfl sc_law.nd (pi_list (pe_m0 (ok_Hall_names T) T.C_Hall hr (pnx (L2N.takes_of rfl rfl rfl rfl)) (pv 3))) (blkOk_by (own := [("name", 11)]) (N := ["script", "dice", "deal", "hall", "owners", "turn", "deed", "users", "user", "own", "had", "name", "many", "kept", "some", "at", "one"]) (sc := defScope s_law) (by decide +kernel)) (fun _ _ _ _ _ => (pg_name (i := 11) sc_law.nd rfl (by first | exact Or.inl rfl | exact Or.inr rfl))) (fun _ _ _ _ _ => pts_nil) (fun _ _ _ _ _ => (pe_callB call_len (by rfl) T.Z_len (by decide +kernel) (pa_cons (pe_m (ok_Hall_held T) T.C_Hall hr pn0 (pv 3) (pa_cons (pv 11) pa_nil)) pa_nil)))) pa_nil)) (pe_callB (call_lenO (ok_Hall___len__ T) hr (pnx (L2N.takes_of rfl rfl rfl rfl))) (by rfl) T.Z_len (by decide +kernel) (pa_cons (pv 3) pa_nil))) pe_int (nomark _)) (pss_one (ps_ret pe_bl)) pss_nil)
      (pss_one (ps_if (PW.pt (pw_and (pt_cmpR (op_neD hr.units) (pe_m0 (ok_Hall_names T) T.C_Hall hr (pnx (L2N.takes_of rfl rfl rfl rfl)) (pv 3)) (pe_lst pa_nil) (nomark _)) (pw_and1 (pt_cmpR op_gt (pe_callB (call_lenO (ok_Hall___len__ T) hr (pnx (L2N.takes_of rfl rfl rfl rfl))) (by rfl) T.Z_len (by decide +kernel) (pa_cons (pv 3) pa_nil)) pe_int (nomark _))))) (pss_cons (ps_asg (pe_tup (pa_cons (pe_ix ix_list (pe_m0 (ok_Hall_names T) T.C_Hall hr (pnx (L2N.takes_of rfl rfl rfl rfl)) (pv 3)) pe_int (fun _ _ => rfl)) (pa_cons (pe_op op_add pe_int (pe_f (ok__law_roll T) hr (pnx (L2N.takes_of rfl rfl rfl rfl)) (pa_cons (pv 1) (pa_cons (pe_callB (call_lenO (ok_Hall___len__ T) hr (pnx (L2N.takes_of rfl rfl rfl rfl))) (by rfl) T.Z_len (by decide +kernel) (pa_cons (pv 3) pa_nil)) pa_nil)))) (pa_cons (pe_callTy call_list_of (by rfl) T.Z_list (by decide +kernel) (pa_cons (pv 4) pa_nil)) pa_nil)))) (pg_tup (by rfl) (pgs_cons (pg_name (i := 11) sc_law.nd rfl (by first | exact Or.inl rfl | exact Or.inr rfl)) (pgs_cons (pg_name (i := 12) sc_law.nd rfl (by first | exact Or.inl rfl | exact Or.inr rfl)) (pgs_cons (pg_name (i := 13) sc_law.nd rfl (by first | exact Or.inl rfl | exact Or.inr rfl)) pgs_nil)))))
      (pss_cons (ps_set (i := 14) sc_law.nd rfl (by first | exact Or.inl rfl | exact Or.inr rfl) (pe_m (ok_Hall_grow T) T.C_Hall hr (pnx (L2N.takes_of rfl rfl rfl rfl)) (pv 3) (pa_cons (pv 11) (pa_cons (pv 12) pa_nil))))
      (pss_cons (ps_setLc (i := 9) (own := [("at", 15), ("one", 16)]) rfl sc_law.nd rfl rfl (sw_true rfl rfl rfl (by decide +kernel)) (pi_enum (by rfl) T.Z_enumerate (pa_cons (pv 13) pa_nil)) (blkOk_by (own := [("at", 15), ("one", 16)]) (N := ["script", "dice", "deal", "hall", "owners", "turn", "deed", "users", "user", "own", "had", "name", "many", "kept", "some", "at", "one"]) (sc := defScope s_law) (by decide +kernel)) (fun _ _ _ _ _ => (pg_tup (by rfl) (pgs_cons (pg_name (i := 15) sc_law.nd rfl (by first | exact Or.inl rfl | exact Or.inr rfl)) (pgs_cons (pg_name (i := 16) sc_law.nd rfl (by first | exact Or.inl rfl | exact Or.inr rfl)) pgs_nil)))) (fun _ _ _ _ _ => (pts_one (pt_cmpR op_eq (pv 16) (pv 11) (nomark _)))) (fun _ _ _ _ _ => (pv 15)))
      (pss_one (ps_if (pt_cmpR op_gt (pe_callB (cr_min rfl) (by rfl) T.Z_min (by decide +kernel) (pa_cons (pv 14) pa_nil)) (pe_callB (cr_max rfl) (by rfl) T.Z_max (by decide +kernel) (pa_cons (pv 9) pa_nil)) (nomark _)) (pss_one (ps_if (PW.pt (pw_or (pt_cmpR (op_neD hr.units) (pe_m (ok_Hall_shrink T) T.C_Hall hr (pnx (L2N.takes_of rfl rfl rfl rfl)) (pv 3) (pa_cons (pv 11) (pa_cons (pv 12) pa_nil))) (pv 14) (nomark _)) (pw_or1 (pt_not (pt_val (pe_f (ok__law_hall_like T) hr (pnx (L2N.takes_of rfl rfl rfl rfl)) (pa_cons (pv 3) (pa_cons (pv 13) pa_nil)))))))) (pss_one (ps_ret pe_bl)) pss_nil)) pss_nil))))) pss_nil))))))))))))
      (pss_one (ps_ret pe_bl))), ?_⟩
    walk_at "0"
    walk_at "g"
    refine ⟨_, _, _, rfl, hS, by omega, by decide, by decide, fun R ds H1 s1 hR hds nR => ?_⟩
    walk_at "g"
    refine ⟨⟨_, lstOf hR⟩, ?_⟩
    refine rounds_goT (T := tabL K tfS) (n := 16) rfl (ext_tabs s1 hT) hR (fun d h => (hds d h).2) (fun _ _ => q _) ?_
    intro w H2 d N hw hT2 hd hN
    match w, hw with
    | [w1, w2, w3, w4, w5, w6, w7, w8, w9, w10, w11, w12, w13, w14, w15, w16], _ =>
    walk_at "c"
    walk_at "g"
    refine ⟨d, rfl, hd, fun p s t H3 b3 np hp hdl => ?_⟩
    refine w_seq (w_asg (w_tup (w_cons (w_make (w_cons (w_var rfl (w_nil ?_)))))))
    intro h dx nh ndx hne
    have so : Same H3 (upd (upd H3 dx (.own h)) h (.ins (_root_.He.ga K "Hall") dx [])) := (Same.new ndx).trans (Same.new (by rw [upd_ne hne.symm]; exact nh))
    have ho : (upd (upd H3 dx (.own h)) h (.ins (_root_.He.ga K "Hall") dx [])) h = some (.ins (_root_.He.ga K "Hall") dx []) := upd_same
    generalize upd (upd H3 dx (.own h)) h (.ins (_root_.He.ga K "Hall") dx []) = H4 at *
    have hdp : Dp K H4 (.ref p) (.tuple [.int s, .int t]) := .tup (tup_s so (tupOf hp)) (.cons (.int s) (.cons (.int t) .nil))
    refine ⟨h, dx, .ref p, _, rfl, ho, hdp, fun _ L H5 nL k5 hx hL => ⟨rfl, ?_⟩, fun z => absurd hdl (by rw [z]; simp)⟩
    have s35 : Same H3 H5 := fun b o e => k5 b o (so _ _ e) fun z => by
      rw [z, nh] at e
      cases e
    have hp5 := k5 _ _ (so _ _ hp) (fun z => by rw [z, nh] at hp; cases hp)
    refine w_cons ?_
    refine evl_use (K := K) (evl_rep (n := 100) rfl (by walk_at "d") (len_ok rfl) (by decide)) fun O vs H6' s6a nO hO' hvs => ?_
    cases dps_non hvs
    refine w_nil ?_
    refine w_newT (by simp) fun pr H6 s6b npr hpr => ?_
    refine w_gtup (tupOf hpr) rfl ?_
    have s6 := s6a.trans s6b
    have hO := s6b _ _ hO'
    have hp6 := s6 _ _ hp5
    have e100 : (List.replicate 100 (none : Option Str)).map nmV = List.replicate 100 V.non := by rw [List.map_replicate]; rfl
    have hA6 : HallAt K H6 h L (.tuple [.int s, .int t]) (List.replicate 100 none) := ⟨⟨dx, .ref p, s6 _ _ hx, .tup (tupOf hp6) (.cons (.int s) (.cons (.int t) .nil))⟩, by rw [e100]; exact s6 _ _ hL, by simp, hdl⟩
    have b6 := (But.toT (T := tabL K tfS) b3).same (s35.trans s6)
    have nLd : L ≠ d := fun z => by
      obtain ⟨x, y, e⟩ := b3.d1
      rw [z, so _ _ e] at nL
      cases nL
    have nOd : O ≠ d := fun z => by
      obtain ⟨x, y, e⟩ := b3.d1
      rw [z, s35 _ _ e] at nO
      cases nO
    have nOL : O ≠ L := fun z => by
      rw [z, hL] at nO
      cases nO
    have nwL : NwT H2 L := nw_none (b3.free (so.free nL))
    have nwO : NwT H2 O := nw_none (b3.free (s35.free nO))
    walk_at "g"
    refine ⟨d, 11, rfl, b6.d1, by decide, by decide, fun r H7 r0 r1 b7 => ?_⟩
    have b27 := b6.trans (But.toT b7)
    have kd : ∀ {H H' : Hp}, But d H H' → KpB (fun b => b = d) H H' := fun b => kpb_but b rfl
    have ld : ∀ {H : Hp}, Dice H d → LsA (fun b => b = d) H := fun ⟨x, y, e⟩ => lsa_one e
    generalize hdlE : PyData.tuple [.int s, .int t] = dl at *
    walk_at "g"
    refine ⟨by omega, by omega, ?_⟩
    refine for_go walk_range (fun i σ H' => (∃ x5 x6, σ = [some (.ref a), some (.ref d), some (.ref p), some (.ref h), some (.ref O), x5, x6, w7, w8, w9, w10, w11, w12, w13, w14, w15, w16]) ∧ ButT (tabL K tfS) d H2 H' ∧ H' p = some (.tup [.int s, .int t]) ∧ ∃ os, HallAt K H' h L dl os ∧ H' O = some (.lst (os.map nmV)) ∧ ∀ z, some z ∈ os → z ∈ names5)
      ⟨⟨_, _, rfl⟩, b27, tup_kpb (kd b7) (ld b7.d0) hp6, _, hA6.kpb (kd b7) (ld b7.d0) nLd, b7.kp _ _ (by rw [e100]; exact hO) nOd, fun z hz => by simp at hz⟩ (fun _ _ _ _ _ => trivial) ?_ ?_
    · rintro i x σ Ha' Ha hi ⟨⟨x5, x6, rfl⟩, ba, hpa, os, hA, hOa, h5⟩ ⟨rfl, rfl⟩
      walk_at "g"
      refine ⟨d, .ref O, rfl, ba.d1, fun pd w' z n Hb bb np hpd hw' hz n1 n2 => ?_⟩
      have hAb := hA.kpb (kd bb) (ld bb.d0) nLd
      have hOb := bb.kp _ _ hOa nOd
      have hpb := tup_kpb (kd bb) (ld bb.d0) hpa
      have bab := ba.trans (But.toT bb)
      have hTb := bab.tb hT2
      walk_at "g"
      refine ⟨h, L, _, os, pd, w', z, n, rfl, hAb, hpd, hw', hz, n1, n2, hTb, fun v1 Hc kc hLc hTc hv1 => ?_⟩
      have hAc := hAb.putK kc hLc (by rw [hallF_len]; exact hA.len)
      have hOc := kc _ _ hOb nOL (fun ps z => by cases z)
      have hpdc := tup_kpb kc (lsa_one hAb.own) hpd
      have hpc := tup_kpb kc (lsa_one hAb.own) hpb
      have bc := bab.kpb kc (fun c hc => by rw [show c = L from hc]; exact nwL) (fun z => nLd z.symm) hTc
      walk_at "g"
      refine ⟨O, pd, os, w', z, n, rfl, hOc, hA.len, hpdc, hw', n1, n2, fun v2 Hd od hOd hv2 => ?_⟩
      have hAd := hAc.kpb od.kpb (lsa_one hOc) (fun z => nOL z.symm)
      have hpdd := tup_kpb od.kpb (lsa_one hOc) hpc
      have hTd := od.tabs hOc hTc
      have bd := bc.kpb od.kpb (fun c hc => by rw [show c = O from hc]; exact nwO) (fun z => nOd z.symm) hTd
      have hv1d := ((hv1.imp (A' := fun b => b = O) (Same.refl _) (fun b e z => by
        obtain ⟨ps, e2⟩ := z _ (by rw [show b = O from e]; exact hOb)
        cases e2)).mono od.kpb (lsa_one hOc)).dp
      have hok := hallF_ok (w := w') (z := z) (n := n) (show os.length ≤ 100 by rw [hA.len]; exact Nat.le_refl _)
      refine w_neD hv1d hv2.dp hok.1.sh hok.1.sh ?_
      rw [hok.2]
      walk_at "g"
      exact ⟨⟨_, _, rfl⟩, bd, hpdd, _, hAd, hOd, hallF_names hz h5⟩
    · rintro σ Hg ⟨⟨x5, x6, rfl⟩, bg, hpg, os, hAg, hOg, h5⟩
      have hTg := bg.tb hT2
      have h100 := hAg.len
      clear hA6 hO hO' hvs hp5 hp6 hx hdp ho hL k5
      walk_at "g"
      refine ⟨by decide, by decide, ?_⟩
      refine lc_dice (K := K) walk_range (by decide) (fun j us => us.length = j ∧ ∀ u ∈ us, isUser u = true) bg.d1 ⟨rfl, by simp⟩ (fun _ _ => trivial) ?_ ?_
      · rintro C j acc y G' G'' hC hj hacc hG' ⟨b2, nC, us, h1, h2, hul, huu⟩ ⟨rfl, rfl⟩
        walk_at "g"
        refine ⟨rfl, ?_⟩
        walk_at "g"
        refine ⟨d, rfl, b2.d1, fun up n l m Hx bx nup hup n0 n1 l0 l1 m0 m1 => ?_⟩
        refine lcr_nx hC (by have : j < 12 := hj; omega) hacc hG' b2 nC h1 h2 bx (d := .tuple [.int n, .int l, .int m]) (.tup (tupOf hup) (.cons (.int n) (.cons (.int l) (.cons (.int m) .nil)))) rfl ⟨by simp [hul], fun u hu => ?_⟩
        rcases List.mem_append.mp hu with hu | hu
        · exact huu u hu
        · cases List.mem_singleton.mp hu
          exact isUser_mk n0 n1 l0 l1 m0 m1
      rintro U ua us Hu nU bu nUd hU hus him ⟨hul, huu⟩
      have hul2 := dpAll_len hus
      have hAu := hAg.kpb (kd bu) (ld bu.d0) nLd
      have hOu := bu.kp _ _ hOg nOd
      have hpu := tup_kpb (kd bu) (ld bu.d0) hpg
      have btu := bg.trans (But.toT bu)
      have hpD : Dp K Hu (.ref p) dl := by
        rw [← hdlE]
        exact .tup (tupOf hpu) (.cons (.int s) (.cons (.int t) .nil))
      walk_at "g"
      refine ⟨⟨_, lstOf hU⟩, ?_⟩
      refine for_go (walk_list (K := K) (a := U) (xs := ua)) (fun i σ H' => (∃ x8 x9, σ = [some (.ref a), some (.ref d), some (.ref p), some (.ref h), some (.ref O), x5, x6, some (.ref U), x8, x9, w10, w11, w12, w13, w14, w15, w16]) ∧ Same Hu H') ⟨⟨_, _, rfl⟩, Same.refl _⟩ (fun _ _ H' _ z => lstOf (z.2 _ _ hU)) ?_ ?_
      · rintro i x σ Hv' Hv hi ⟨⟨x8, x9, rfl⟩, sv⟩ ⟨rfl, hxi⟩
        obtain ⟨e, he, hde⟩ := dpAll_getV hus hxi
        have hue := huu e (List.mem_of_getElem? he)
        have hxv := dp_s sv hde
        obtain ⟨n, l, m, rfl, n0, n1, l0, l1, m0, m1⟩ := isUser_is hue
        obtain ⟨s', t', e', s0, s1', t0, t1, _⟩ := isDeal_is hdl
        rw [e'] at hdlE
        cases hdlE
        walk_at "g"
        refine w_ixD0 hxv fun u0 h0 => ?_
        cases dp_int h0
        walk_at "g"
        refine w_ixT (tupOf (sv _ _ hpu)) rfl ?_
        refine w_I (.inr ⟨by omega, by omega⟩) ?_
        walk_at "g"
        refine w_ixT (tupOf (sv _ _ hpu)) rfl ?_
        walk_at "g"
        refine w_I (by decide) ?_
        walk_at "g"
        obtain ⟨dx3, v3, hh3, _⟩ := (hAu.s sv).obj
        refine w_meth (w_var rfl ⟨h, dx3, _, rfl, hh3, rfl, ?_⟩)
        walk_at "g"
        refine ⟨h, L, _, os, x, _, rfl, hAu.s sv, hxv, fun _ => ?_, fun z => absurd hue (by rw [z]; simp)⟩
        walk_at "g"
        have hbp := placeD_bd hue hdl
        have epl : placeD (.tuple [.int n, .int l, .int m]) dl = (n * s + t) % 100 := by rw [e']; rfl
        rw [epl] at hbp
        refine w_ixL (lstOf (sv _ _ hOu)) (at_of (j := ((n * s + t) % 100).toNat) (by omega) (at_own (by omega))) ?_
        rw [epl]
        refine w_ne (nm_scal2 _ _) ?_
        rw [decide_eq_true rfl]
        walk_at "g"
        exact ⟨⟨_, _, rfl⟩, sv⟩
      · rintro σ Hv ⟨⟨x8, x9, rfl⟩, sv⟩
        have hAv := hAu.s sv
        have hOv := sv _ _ hOu
        have hUv := sv _ _ hU
        have husv := dps_s sv hus
        have btv := btu.same sv
        walk_at "g"
        refine ⟨⟨_, lstOf hUv⟩, ?_⟩
        have l12 : ua.length ≤ 12 := by rw [hul2, hul]; decide
        refine lc_data (K := K) (walk_list (K := K) (a := U) (xs := ua)) (by omega) (us.map fun u => if decide (ofF os dl u ≠ none) = true then [PyData.tuple [u, nmD (ofF os dl u)]] else []) (by simp [hul2]) (fun H' s => lstOf (s _ _ hUv)) ?_ ?_
        · rintro C j acc x G' G'' hC hj hacc hG' iv ⟨rfl, hxj⟩
          obtain ⟨e, he, hde⟩ := dpAll_getV husv hxj
          have hue := huu e (List.mem_of_getElem? he)
          have hxg := dp_s iv.1 hde
          have hAq := hAv.s iv.1
          obtain ⟨dx3, v3, hh3, _⟩ := hAq.obj
          walk_at "g"
          refine ⟨rfl, ?_⟩
          walk_at "g"
          refine w_meth (w_var rfl ⟨h, dx3, _, rfl, hh3, rfl, ?_⟩)
          walk_at "g"
          refine ⟨h, L, _, os, x, e, rfl, hAq, hxg, fun _ => ?_, fun z => absurd hue (by rw [z]; simp)⟩
          walk_at "g"
          rw [nm_none]
          have eof : os.getD (placeD e dl).toNat none = ofF os dl e := rfl
          rw [eof]
          have edec : decide (ofF os dl e ≠ none) = !decide (ofF os dl e = none) := by simp
          have him2 : immAll (us.map fun u => if decide (ofF os dl u ≠ none) = true then [PyData.tuple [u, nmD (ofF os dl u)]] else []).flatten = true := by
            rw [flat_ifD (fun u => decide (ofF os dl u ≠ none)) (fun u => PyData.tuple [u, nmD (ofF os dl u)])]
            exact had_imm huu
          refine if_b (fun hb => ?_) (fun hb => ?_)
          · walk_at "g"
            refine w_meth (w_var rfl ⟨h, dx3, _, rfl, hh3, rfl, ?_⟩)
            walk_at "g"
            refine ⟨h, L, _, os, x, e, rfl, hAq, hxg, fun _ => ?_, fun z => absurd hue (by rw [z]; simp)⟩
            walk_at "g"
            refine w_newT (by simp) fun tt G3 s3 ntt htt => ?_
            exact lcd_nx hC (by omega) hacc hG' iv s3 (d := .tuple [e, nmD (ofF os dl e)]) (.tup (tupOf htt) (.cons (dp_s s3 hxg) (.cons (nm_dp _) .nil))) him2 (by
              rw [List.getElem?_map, he, Option.map_some, if_pos (by rw [edec]; exact hb)])
          · walk_at "g"
            exact lcd_sk hacc hG' iv (Same.refl _) (by
              rw [List.getElem?_map, he, Option.map_some, if_neg (by rw [edec, hb]; simp)])
        intro P pa Hw nP sw hP hpa
        rw [flat_ifD (fun u => decide (ofF os dl u ≠ none)) (fun u => PyData.tuple [u, nmD (ofF os dl u)])] at hpa
        have hPw : Hw P = some (.lst pa) ∧ DpAll K Hw pa (hadD os dl us) := ⟨hP, hpa⟩
        have imP := had_imm (os := os) (dl := dl) huu
        have hAw := hAv.s sw
        have hOw := sw _ _ hOv
        have btw := btv.same sw
        have nPd : P ≠ d := btv.d1.ne nP
        have nPL : P ≠ L := fun z => by rw [z, hAv.own] at nP; cases nP
        have nPO : P ≠ O := fun z => by rw [z, hOv] at nP; cases nP
        walk_at "g"
        refine ⟨by decide, by decide, ?_⟩
        refine for_go walk_range (fun i σ H' => (∃ x5 x6, σ = [some (.ref a), some (.ref d), some (.ref p), some (.ref h), some (.ref O), x5, x6, some (.ref U), x8, x9, some (.ref P), w11, w12, w13, w14, w15, w16]) ∧ ButT (tabL K tfS) d H2 H' ∧ (H' P = some (.lst pa) ∧ DpAll K H' pa (hadD os dl us)) ∧ ∃ os', Grows os os' ∧ HallAt K H' h L dl os' ∧ H' O = some (.lst (os'.map nmV)) ∧ ∀ z, some z ∈ os' → z ∈ names5)
          ⟨⟨_, _, rfl⟩, btw, hPw, os, fun _ _ e => e, hAw, hOw, h5⟩ (fun _ _ _ _ _ => trivial) ?_ ?_
        · rintro i x σ Ha' Ha hi ⟨⟨x5, x6, rfl⟩, ba, hPa, os', hgr, hA, hOa, h5'⟩ ⟨rfl, rfl⟩
          walk_at "g"
          refine ⟨d, .ref O, rfl, ba.d1, fun pd w' z n Hb bb np hpd hw' hz n1 n2 => ?_⟩
          have hAb := hA.kpb (kd bb) (ld bb.d0) nLd
          have hOb := bb.kp _ _ hOa nOd
          have hPb := keepL (kd bb) (ld bb.d0) nPd imP hPa
          have bab := ba.trans (But.toT bb)
          have hTb := bab.tb hT2
          walk_at "g"
          refine w_ixT (tupOf hpd) rfl ?_
          walk_at "g"
          refine w_ne (x := .str w') (y := .str "shrink") rfl ?_
          have ews : (!decide (V.str w' = V.str "shrink")) = !decide (w' = "shrink") := by simp
          rw [ews]
          walk_at "g"
          refine if_b (fun hns => ?_) (fun hns => ?_)
          · have hns : w' ≠ "shrink" := by simpa using hns
            walk_at "g"
            refine ⟨h, L, _, os', pd, w', z, n, rfl, hAb, hpd, hw', hz, n1, n2, hTb, fun v1 Hc kc hLc hTc hv1 => ?_⟩
            have hAc := hAb.putK kc hLc (by rw [hallF_len]; exact hA.len)
            have hOc := kc _ _ hOb nOL (fun ps z => by cases z)
            have hpdc := tup_kpb kc (lsa_one hAb.own) hpd
            have hPc := keepL kc (lsa_one hAb.own) nPL imP hPb
            have bc := bab.kpb kc (fun c hc => by rw [show c = L from hc]; exact nwL) (fun z => nLd z.symm) hTc
            walk_at "g"
            refine ⟨O, pd, os', w', z, n, rfl, hOc, hA.len, hpdc, hw', n1, n2, fun v2 Hd od hOd hv2 => ?_⟩
            have hAd := hAc.kpb od.kpb (lsa_one hOc) (fun z => nOL z.symm)
            have hPd := keepL od.kpb (lsa_one hOc) nPO imP hPc
            have hTd := od.tabs hOc hTc
            have bd := bc.kpb od.kpb (fun c hc => by rw [show c = O from hc]; exact nwO) (fun z => nOd z.symm) hTd
            have hv1d := ((hv1.imp (A' := fun b => b = O) (Same.refl _) (fun b e z => by
              obtain ⟨ps, e2⟩ := z _ (by rw [show b = O from e]; exact hOb)
              cases e2)).mono od.kpb (lsa_one hOc)).dp
            have hok := hallF_ok (w := w') (z := z) (n := n) (show os'.length ≤ 100 by rw [hA.len]; exact Nat.le_refl _)
            refine w_neD hv1d hv2.dp hok.1.sh hok.1.sh ?_
            rw [hok.2]
            walk_at "g"
            exact ⟨⟨_, _, rfl⟩, bd, hPd, _, (fun i y e => grows_hallF hns i y (hgr i y e)), hAd, hOd, hallF_names hz h5'⟩
          · walk_at "g"
            exact ⟨⟨_, _, rfl⟩, bab, hPb, os', hgr, hAb, hOb, h5'⟩
        · rintro σ Ha ⟨⟨x5, x6, rfl⟩, ba, hPa, os', hgr, hA, hOa, h5'⟩
          have hTa := ba.tb hT2
          have h100' := hA.len
          have hpl := dpAll_len hPa.2
          have lhad : (hadD os dl us).length ≤ 12 := by
            unfold hadD
            rw [List.length_map]
            exact Nat.le_trans (List.length_filter_le _ _) (by rw [hul]; decide)
          -- what each of them had
          have hitem : ∀ (j : Nat) (y : V), pa[j]? = some y → ∃ (u : PyData) (tt : Addr) (v : V), (hadD os dl us)[j]? = some (.tuple [u, nmD (ofF os dl u)]) ∧ isUser u = true ∧ ofF os' dl u = ofF os dl u ∧ y = .ref tt ∧ SqT K Ha tt [v, nmV (ofF os dl u)] ∧ Dp K Ha v u := fun j y hy => by
            obtain ⟨e, he, hde⟩ := dpAll_getV hPa.2 hy
            obtain ⟨u, hu, rfl⟩ := List.mem_map.mp (List.mem_of_getElem? he)
            have hu2 := List.mem_filter.mp hu
            obtain ⟨tt, ys, rfl, hs, hys⟩ := dp_tuple hde
            cases hys with
            | cons hy1 hys =>
            cases hys with
            | cons hy2 hys =>
            cases hys
            cases dp_nmV hy2
            refine ⟨u, tt, _, he, huu u hu2.1, ?_, rfl, hs, hy1⟩
            cases e : ofF os dl u with
            | none =>
              rw [e] at hu2
              simp at hu2
            | some z => exact hgr _ z e
          walk_at "g"
          refine ⟨⟨_, lstOf hPa.1⟩, ?_⟩
          have lpa : pa.length ≤ 12 := by omega
          have hf5 : ∀ u, ∃ o : Option Str, nmD (ofF os dl u) = nmD o ∧ ∀ z, o = some z → z ∈ names5 := fun u => ⟨ofF os dl u, rfl, fun z e => h5 z (by
            unfold ofF at e
            rcases Nat.lt_or_ge (placeD u dl).toNat os.length with hlt | hge
            · rw [List.getD_eq_getElem?_getD, List.getElem?_eq_getElem hlt] at e
              rw [← show os[(placeD u dl).toNat] = some z from e]
              exact List.getElem_mem hlt
            · rw [List.getD_eq_getElem?_getD, List.getElem?_eq_none hge] at e
              cases e)⟩
          refine lc_pure (walk_list (K := K) (a := P) (xs := pa)) (by omega) ((hadD os dl us).map fun e => [nmV (sndO os dl e)]) (by simp [hpl]) (fun H' s => lstOf (s _ _ hPa.1)) ?_ ?_
          · rintro C j acc x G' G'' hC hj hacc hG' iv ⟨rfl, hxj⟩
            obtain ⟨u, tt, v, he, hu, hof, rfl, htt, hv⟩ := hitem j x hxj
            refine w_gtup (tup_s iv.1 htt) rfl ?_
            walk_at "g"
            refine ⟨rfl, ?_⟩
            have hAq := hA.s iv.1
            obtain ⟨dx3, v3, hh3, _⟩ := hAq.obj
            walk_at "g"
            refine w_meth (w_var rfl ⟨h, dx3, _, rfl, hh3, rfl, ?_⟩)
            walk_at "g"
            refine ⟨h, L, _, os', v, u, rfl, hAq, dp_s iv.1 hv, fun _ => ?_, fun z => absurd hu (by rw [z]; simp)⟩
            refine lcp_nx hC (by omega) hacc hG' iv (Same.refl _) ?_
            rw [List.getElem?_map, he]
            show some [nmV (ofF os dl u)] = some [nmV (ofF os' dl u)]
            rw [hof]
          · intro C1 Hb nC1 sb hC1
            rw [flat_one (fun e => nmV (sndO os dl e))] at hC1
            have hPb := keepS sb hPa
            walk_at "g"
            refine ⟨⟨_, lstOf hPb.1⟩, ?_⟩
            refine lc_pure (walk_list (K := K) (a := P) (xs := pa)) (by omega) ((hadD os dl us).map fun e => [nmV (sndO os dl e)]) (by simp [hpl]) (fun H' s => lstOf (s _ _ hPb.1)) ?_ ?_
            · rintro C j acc x G' G'' hC hj hacc hG' iv ⟨rfl, hxj⟩
              obtain ⟨u, tt, v, he, hu, hof, rfl, htt, hv⟩ := hitem j x hxj
              refine w_gtup (tup_s (sb.trans iv.1) htt) rfl ?_
              walk_at "g"
              refine ⟨rfl, ?_⟩
              walk_at "g"
              refine lcp_nx hC (by omega) hacc hG' iv (Same.refl _) ?_
              rw [List.getElem?_map, he]
              rfl
            · intro C2 Hc nC2 sc hC2
              rw [flat_one (fun e => nmV (sndO os dl e))] at hC2
              have emap : (hadD os dl us).map (fun e => nmV (sndO os dl e)) = ((hadD os dl us).map (sndO os dl)).map nmV := by rw [List.map_map]; rfl
              rw [emap] at hC1 hC2
              have gg : Gd 64 (.list (((hadD os dl us).map (sndO os dl)).map nmD)) := gd_nms (fun z hz => by
                obtain ⟨e, he, e2⟩ := List.mem_map.mp hz
                obtain ⟨u, _, rfl⟩ := List.mem_map.mp he
                have e3 : ofF os dl u = some z := e2
                unfold ofF at e3
                rcases Nat.lt_or_ge (placeD u dl).toNat os.length with hlt | hge
                · rw [List.getD_eq_getElem?_getD, List.getElem?_eq_getElem hlt] at e3
                  exact h5 z (by
                    rw [← show os[(placeD u dl).toNat] = some z from e3]
                    exact List.getElem_mem hlt)
                · rw [List.getD_eq_getElem?_getD, List.getElem?_eq_none hge] at e3
                  cases e3) (by rw [List.length_map]; omega)
              walk_at "g"
              refine w_neD (.lst (lstOf (sc _ _ hC1)) (dps_nm _)) (.lst (lstOf hC2) (dps_nm _)) gg.sh gg.sh ?_
              rw [eqv_nms]
              have hAc := hA.s (sb.trans sc)
              have hOc := (sb.trans sc) _ _ hOa
              have bc := ba.same (sb.trans sc)
              clear hitem hf5 hC1 hC2 gg
              walk_at "g"
              obtain ⟨dx3, v3, hh3, _⟩ := hAc.obj
              refine w_meth (w_var rfl ⟨h, dx3, _, rfl, hh3, rfl, w_nil ⟨h, L, _, os', names5, rfl, hAc, h5', by decide, fun ys Y Hd nY sd hso hnd hmem hY => ?_⟩⟩)
              have hys5 : ∀ z ∈ ys, z ∈ names5 := fun z hz => h5' z ((hmem z).mp hz)
              have hyl := nd5_le hnd hys5
              have hAd := hAc.s sd
              have hOd := sd _ _ hOc
              refine ⟨Y, rfl, ⟨_, lstOf hY⟩, ?_⟩
              refine lc_pure (walk_list (K := K) (a := Y) (xs := ys.map V.str)) (by rw [List.length_map]; omega) (ys.map fun z => [V.int ((idxL os' (some z)).length : Nat)]) (by simp) (fun H' s => lstOf (s _ _ hY)) ?_ ?_
              · rintro C j acc x G' G'' hC hj hacc hG' iv ⟨rfl, hxj⟩
                rw [List.getElem?_map] at hxj
                obtain ⟨z, hz, rfl⟩ := Option.map_eq_some_iff.mp hxj
                rw [List.length_map] at hj
                have hzm := List.mem_of_getElem? hz
                have hsw : isSw os' (.str z) = true := by rw [isSw5 (hys5 z hzm)]; exact decide_eq_true ((hmem z).mp hzm)
                have hAq := hAd.s iv.1
                obtain ⟨dx4, v4, hh4, _⟩ := hAq.obj
                walk_at "g"
                refine ⟨rfl, ?_⟩
                walk_at "g"
                refine w_meth (w_var rfl ⟨h, dx4, _, rfl, hh4, rfl, ?_⟩)
                walk_at "g"
                refine ⟨h, L, _, os', .str z, .str z, rfl, hAq, .str z, fit5 (hys5 z hzm), fun z' ez _ F6 H6 nF6 s6 hF6 => ?_, fun z0 => absurd hsw (by rw [z0]; simp)⟩
                cases ez
                walk_at "g"
                refine w_lenL (lstOf hF6) ?_
                refine lcp_nx hC (by omega) hacc hG' iv s6 ?_
                rw [List.getElem?_map, hz]
                unfold natsV
                rw [List.length_map]
                rfl
              · intro C He nC se hC
                rw [flat_one (fun z : Str => V.int ((idxL os' (some z)).length : Nat))] at hC
                have hC : He C = some (.lst ((ys.map fun z => ((idxL os' (some z)).length : Int)).map V.int)) := by
                  rw [hC, List.map_map]
                  rfl
                walk_at "g"
                refine w_sum (lstOf hC) ?_
                have hAe := hAd.s se
                have hOe := se _ _ hOd
                obtain ⟨dx5, v5, hh5, _⟩ := hAe.obj
                have hfl := idxL_le os' none
                walk_at "g"
                refine ⟨h, dx5, _, rfl, hh5, h, L, _, os', rfl, hAe, fun Hf sf => ⟨_, rfl, by omega, ?_⟩⟩
                walk_at "g"
                have hcount : (ys.map fun z => ((idxL os' (some z)).length : Int)).sum + ((idxL os' none).length : Nat) = 100 := by
                  have h1 := count_all (os := os') hnd fun z hz => (hmem z).mpr hz
                  have h2 := sum_cast os' ys
                  rw [h2, idxL_len]
                  omega
                rw [hcount]
                have hAf := hAe.s sf
                have hOf := sf _ _ hOe
                have bf := ((bc.same sd).same se).same sf
                rw [decide_eq_true rfl]
                walk_at "g"
                obtain ⟨dx6, v6, hh6, _⟩ := hAf.obj
                refine w_meth (w_var rfl ⟨h, dx6, _, rfl, hh6, rfl, w_nil ⟨h, L, _, os', names5, rfl, hAf, h5', by decide, fun ys2 Y2 Hg2 nY2 sg hso2 hnd2 hmem2 hY2 => ?_⟩⟩)
                have hys52 : ∀ z ∈ ys2, z ∈ names5 := fun z hz => h5' z ((hmem2 z).mp hz)
                have gy2 := gd_strs hys52 (nd5_len hnd2 hys52)
                walk_at "g"
                refine w_newL (by simp) fun E1 Hh sh nE1 hE1 => ?_
                refine w_neD (.lst (lstOf (sh _ _ hY2)) (dps_strs ys2)) (.lst (lstOf hE1) .nil) gy2.sh rfl ?_
                have ee : PyData.eqv (.list (ys2.map PyData.str)) (.list []) = ys2.isEmpty := by cases ys2 <;> rfl
                rw [ee]
                have hAh := (hAf.s sg).s sh
                have hOh := sh _ _ (sg _ _ hOf)
                have bh := (bf.same sg).same sh
                cases hem : ys2.isEmpty with
                | true =>
                  walk_at "g"
                  exact hN _ _ rfl bh
                | false =>
                  walk_at "g"
                  obtain ⟨dx7, v7, hh7, _⟩ := hAh.obj
                  refine ⟨h, dx7, _, rfl, hh7, h, L, _, os', rfl, hAh, fun Hi si => ⟨_, rfl, by omega, ?_⟩⟩
                  have hAi := hAh.s si
                  have hOi := si _ _ hOh
                  have bi := bh.same si
                  walk_at "g"
                  refine if_b (fun hb => ?_) (fun hb => ?_)
                  · have hb := of_decide_eq_true hb
                    obtain ⟨dx8, v8, hh8, _⟩ := hAi.obj
                    walk_at "p"
                    refine w_tup (w_cons (w_op (w_meth (w_var rfl ⟨h, dx8, _, rfl, hh8, rfl, w_nil ⟨h, L, _, os', names5, rfl, hAi, h5', by decide, fun ys3 Y3 Hj nY3 sj hso3 hnd3 hmem3 hY3 => ?_⟩⟩))))
                    have e32 : ys3 = ys2 := sorted_uniq hso3 hso2 hnd3 hnd2 fun z => by rw [hmem3 z, hmem2 z]
                    subst e32
                    cases ys3 with
                    | nil => cases hem
                    | cons z zs =>
                    have hz5 := hys52 z (by simp)
                    have hzo : some z ∈ os' := (hmem3 z).mp (by simp)
                    have hsw : isSw os' (.str z) = true := by rw [isSw5 hz5]; exact decide_eq_true hzo
                    have hpos := idx_pos hzo
                    walk_at "g"
                    refine w_ixL (lstOf hY3) (at_of (j := 0) (v := .str z) rfl rfl) ?_
                    have hAj := hAi.s sj
                    have hOj := sj _ _ hOi
                    have bj := bi.same sj
                    obtain ⟨dx9, v9, hh9, _⟩ := hAj.obj
                    walk_at "g"
                    refine ⟨h, dx9, _, rfl, hh9, h, L, _, os', rfl, hAj, fun Hk sk => ⟨_, rfl, by omega, ?_⟩⟩
                    have hAk := hAj.s sk
                    have hOk := sk _ _ hOj
                    have bk := bj.same sk
                    walk_at "g"
                    refine ⟨d, _, rfl, bk.d1, by omega, by omega, fun r Hl r0 r1 bl => ?_⟩
                    obtain ⟨r, rfl⟩ := Int.eq_ofNat_of_zero_le r0
                    have er : (1 : Int) + (r : Int) = ((r + 1 : Nat) : Int) := by omega
                    refine w_I0 ?_
                    rw [er]
                    have hAl := hAk.kpb (kd bl) (ld bl.d0) nLd
                    have hOl := bl.kp _ _ hOk nOd
                    have btl := bk.trans (But.toT (T := tabL K tfS) bl)
                    walk_at "g"
                    refine ⟨O, _, rfl, .inl (lstOf hOl), fun Kp nKp => ?_⟩
                    have sm : Same Hl (upd Hl Kp (.lst (os'.map nmV))) := Same.new nKp
                    have hKm : (upd Hl Kp (.lst (os'.map nmV))) Kp = some (.lst (os'.map nmV)) := upd_same
                    generalize upd Hl Kp (.lst (os'.map nmV)) = Hm at *
                    refine w_nil ?_
                    refine w_newT (by simp) fun tt Hn sn ntt htt => ?_
                    refine w_gtup (tupOf htt) rfl ?_
                    have smn := sm.trans sn
                    have hAn := hAl.s smn
                    have hKn := sn _ _ hKm
                    have btn := btl.same smn
                    have nKL : Kp ≠ L := fun e => by rw [e, hAl.own] at nKp; cases nKp
                    have nKd : Kp ≠ d := btl.d1.ne nKp
                    walk_at "p"
                    obtain ⟨dx10, v10, hh10, _⟩ := hAn.obj
                    have hn1 : 1 ≤ r + 1 := by omega
                    have hn2 : r + 1 ≤ 100 := by omega
                    refine w_meth (w_var rfl ⟨h, dx10, _, rfl, hh10, rfl, ?_⟩)
                    walk_at "g"
                    refine ⟨h, L, _, os', .str z, .str z, .int ((r + 1 : Nat) : Int), .int ((r + 1 : Nat) : Int), rfl, hAn, .str z, fit5 hz5, .int _, fun z0 => absurd hsw (by rw [z0]; simp), fun z' ez _ => ⟨fun z0 => absurd (num_nat hn1 hn2) (by rw [z0]; simp), fun n en _ _ hlt => ?_, fun n en _ _ hle F Ho nF ot hLo hFo => ?_⟩⟩
                    · exfalso
                      injection en with en
                      omega
                    cases ez
                    have en : r + 1 = n := by
                      injection en with en
                      omega
                    subst en
                    have hAo := hAn.put ot hLo (by rw [setAll_len]; exact hA.len)
                    have hKo := ot _ _ hKn nKL
                    have nFL : F ≠ L := fun e => by rw [e, hAn.own] at nF; cases nF
                    have hTo := ot.tabs hAn.own (btn.tb hT2)
                    have bto := btn.kpb ot.kpb (fun c hc => by rw [show c = L from hc]; exact nwL) (fun e => nLd e.symm) hTo
                    walk_at "g"
                    refine ⟨Kp, _, rfl, lstOf hKo, ?_⟩
                    refine lc_idx (o := some z) hKo (by omega) (fun i T' x H' Qb s7 hT' k => ?_) fun W Hp nW sp hW => ?_
                    · refine w_gtup (tupOf hT') rfl ?_
                      walk_at "g"
                      refine ⟨rfl, ?_⟩
                      walk_at "g"
                      refine w_eq (nm_scal x z) ?_
                      rw [nm_some]
                      walk_at "g"
                      exact k _ fun Qv hq => w_var rfl hq
                    have hAp := hAo.s sp
                    have hKp := sp _ _ hKo
                    have hFp := sp _ _ hFo
                    have btp := bto.same sp
                    have enat : ∀ is : List Nat, natsV is = (is.map fun (i : Nat) => (i : Int)).map V.int := fun is => by
                      unfold natsV
                      rw [List.map_map]
                      rfl
                    walk_at "g"
                    have lis : 0 < ((idxL os' none).take (r + 1)).length := by rw [List.length_take]; omega
                    refine ⟨F, ((idxL os' none).take (r + 1)).map fun (i : Nat) => (i : Int), rfl, by rw [← enat]; exact lstOf hFp, by rw [List.length_map]; exact lis, fun mn hmn hmnle => ?_⟩
                    walk_at "g"
                    refine ⟨W, (idxL os' (some z)).map fun (i : Nat) => (i : Int), rfl, by rw [← enat]; exact lstOf hW, by rw [List.length_map]; omega, fun mx hmx hmxle => ?_⟩
                    walk_at "g"
                    refine if_b (fun hgt => ?_) (fun hgt => ?_)
                    · have hgt := of_decide_eq_true hgt
                      have hsep : ∀ i ∈ (idxL os' none).take (r + 1), ∀ j ∈ idxL os' (some z), j < i := fun i hi j hj => by
                        have h1 := hmnle (i : Int) (List.mem_map.mpr ⟨i, hi, rfl⟩)
                        have h2 := hmxle (j : Int) (List.mem_map.mpr ⟨j, hj, rfl⟩)
                        omega
                      have hidx := idx_grown (os := os') (z := z) (n := r + 1) hsep
                      have hback := back_same (os := os') (z := z) (n := r + 1)
                      have ltk : ((idxL os' none).take (r + 1)).length = r + 1 := by rw [List.length_take]; omega
                      have hsw2 : isSw (setAll os' ((idxL os' none).take (r + 1)) (some z)) (.str z) = true := by
                        rw [isSw5 hz5]
                        have := idx_no (os := setAll os' ((idxL os' none).take (r + 1)) (some z)) (z := z)
                        rw [hidx] at this
                        cases hd2 : decide (some z ∈ setAll os' ((idxL os' none).take (r + 1)) (some z)) with
                        | true => rfl
                        | false =>
                          rw [hd2] at this
                          have h0 : (idxL os' (some z) ++ (idxL os' none).take (r + 1)).length = 0 := by
                            rw [List.isEmpty_iff.mp this]
                            rfl
                          rw [List.length_append] at h0
                          omega
                      obtain ⟨dx11, v11, hh11, _⟩ := hAp.obj
                      walk_at "p"
                      refine w_or (w_test (w_op (w_meth (w_var rfl ⟨h, dx11, _, rfl, hh11, rfl, ?_⟩))))
                      walk_at "g"
                      refine ⟨h, L, _, _, .str z, .str z, .int ((r + 1 : Nat) : Int), .int ((r + 1 : Nat) : Int), rfl, hAp, .str z, fit5 hz5, .int _, fun z0 => absurd hsw2 (by rw [z0]; simp), fun z' ez _ hnb => ?_, fun z' n ez _ en _ hle2 F2 Hq nF2 ot2 hLq hFq => ?_⟩
                      · exfalso
                        cases ez
                        rw [hidx, List.length_append, ltk] at hnb
                        have a1 : (1 : Int) ≤ ((r + 1 : Nat) : Int) := by omega
                        have a2 : ((r + 1 : Nat) : Int) ≤ (((idxL os' (some z)).length + (r + 1) : Nat) : Int) := by omega
                        simp only [isNum, decide_eq_true a1, decide_eq_true a2] at hnb
                        cases hnb
                      cases ez
                      have en : r + 1 = n := by
                        injection en with en
                        omega
                      subst en
                      have edrop : (idxL (setAll os' ((idxL os' none).take (r + 1)) (some z)) (some z)).drop ((idxL (setAll os' ((idxL os' none).take (r + 1)) (some z)) (some z)).length - (r + 1)) = (idxL os' none).take (r + 1) := by
                        rw [hidx, List.length_append, ltk, Nat.add_sub_cancel, List.drop_left']
                        rfl
                      rw [edrop] at hLq hFq
                      rw [hback] at hLq
                      have hAq := hAp.put ot2 hLq hA.len
                      have hKq := ot2 _ _ hKp nKL
                      have hFq1 := ot2 _ _ hFp nFL
                      have hTq := ot2.tabs hAp.own (btp.tb hT2)
                      have btq := btp.kpb ot2.kpb (fun c hc => by rw [show c = L from hc]; exact nwL) (fun e => nLd e.symm) hTq
                      have gq := natsD_gd ((idxL os' none).take (r + 1)) (by rw [ltk]; omega)
                      walk_at "g"
                      refine w_neD (dpf_nats (H0 := fun _ => none) (nw_none rfl) hFq).dp (dpf_nats (H0 := fun _ => none) (nw_none rfl) hFq1).dp gq.sh gq.sh ?_
                      rw [eqv_nats]
                      walk_at "g"
                      refine ⟨h, L, _, os', Kp, rfl, hAq, hKq, h5', fun Hr sr => ?_⟩
                      walk_at "g"
                      exact hN _ _ rfl (btq.same sr)
                    · walk_at "g"
                      exact hN _ _ rfl btp
                  · walk_at "g"
                    exact hN _ _ rfl bi
end
end RG
namespace RG
open PySem PySem.Spec PyProof.Rows L2
abbrev lvl : Nat := 8
theorem law_at {K : PySem.W.Frag} {h : Heap} {mg : Str → Option Value} {w : World} {fa : Addr} (X : K.In h) (G : h.Ns mainGlobals mg) (c : He.SaysX fal fnl [] tfl exl w h K) (hmg : mg ("law" : Str) = some (.ref fa)) :
    LamX.LawAtS PySem.Challenge.rw_rollgates_k52_whole_halls_shut_out w K (CXN PySem.Challenge.pw_rollgates_k52_whole_halls_shut_out w) lvl 63 "script" mg fa h := by
  have T := tx_mk X G c
  have e := hmg.symm.trans T.G_law
  cases e
  have ap := apartB_ok (Bool.and_eq_true_iff.mp c.more).2
  have ok : ∀ base : Heap, TLs base mg K tfS → Ok PySem.Challenge.pw_rollgates_k52_whole_halls_shut_out w K mg base lvl "law" ["script"] (spLawT K tfS) := fun base B => ok_law T B
  obtain ⟨fd, F⟩ := T.F_law
  have b := F.bindsA (ps := ["script"]) (fun _ _ _ _ _ _ us hl => match us, hl with | [_], _ => rfl)
  obtain ⟨oc, od, dV, kV, doc, pm, an, cdv, ct, osl, efd, lk, _⟩ := F.ex
  have fe : fdAt K (He.ga K "law") = some fd := by
    unfold fdAt
    rw [lk]
  have mem : ∀ p ∈ tfS.map (fun x => He.cT K (x, none)), ∃ z ∈ tfl, p = He.cT K z := fun p hp => by
    obtain ⟨x, hx, rfl⟩ := List.mem_map.mp hp
    exact ⟨(x, none), lam_mem hx, rfl⟩
  refine ⟨fd, tfS.map (fun x => He.cT K (x, none)), spLawT K tfS, fun p hp => ?_, fun p hp => ?_, fun p hp => ?_, fun s u => b s [u] rfl, fun H a ns hl _ hT hS => ⟨a, ns, rfl, hS, hl, fun p hp => ?_, fun _ => rfl⟩, fun base _ _ TB => ?_⟩
  · obtain ⟨z, hz, rfl⟩ := mem p hp
    exact c.empty z hz
  · obtain ⟨z, hz, rfl⟩ := mem p hp
    exact c.out z hz
  · obtain ⟨z, hz, rfl⟩ := mem p hp
    exact PySem.W.codeHd_of_K X (c.hd z hz)
  · obtain ⟨x, hx, rfl⟩ := List.mem_map.mp hp
    exact LamX.TabS.nil (hT _ (List.mem_map.mpr ⟨x, hx, rfl⟩))
  · obtain ⟨_, _, fd2, fe2, _, F2⟩ := ok base ⟨fun x hx => TB _ (List.mem_map.mpr ⟨x, hx, rfl⟩), ap⟩
    have e2 := fe.symm.trans fe2
    cases e2
    exact F2
end RG

open PySem PySem.W PySem.Calls PyProof.Rows
set_option maxRecDepth 100000 in
set_option maxHeartbeats 0 in
theorem PySem.Challenge.cw_rollgates_k52_whole_halls_shut_out_holds : PySem.Challenge.rw_rollgates_k52_whole_halls_shut_out.Holds := by
  w_on; o_law
  refine HandSHeadRun.head_any (r := PySem.W.OpenLaw.row PySem.Challenge.rw_rollgates_k52_whole_halls_shut_out) (q := view (PySem.W.OpenLaw.row PySem.Challenge.rw_rollgates_k52_whole_halls_shut_out).prog [47]) (H := RG.hkl) (ob := RG.obl) (M := 5240) (loose := RG.nml) (d := HandSHeadRun.topDef (PySem.W.OpenLaw.row PySem.Challenge.rw_rollgates_k52_whole_halls_shut_out).prog 47) (kwd := []) RG.obl_eq
    (by kernel_rfl) (fun s => by kernel_rfl) RG.runl (by kernel_rfl) (by kernel_rfl) (by kernel_rfl) (by rfl) (by first | assumption | decide +kernel) (by decide +kernel) ⟨rfl, rfl, rfl, rfl, rfl, by decide +kernel⟩ ?hw ?hc
  case hw => w_witness2
  case hc =>
    refine LamX.walk_ofTsE (l := PySem.Challenge.rw_rollgates_k52_whole_halls_shut_out) (n := 63) (k := RG.lvl) (x := "script") (CX := fun w => RG.CXN PySem.Challenge.pw_rollgates_k52_whole_halls_shut_out w) rfl (by decide) (by kernel_rfl) ⟨rfl, by decide, by decide⟩ ?F ?X
    case X =>
      intro w H s e s' z
      obtain ⟨_, _, _, _, _, _, _, _, _, _, _, _, z⟩ := z
      exact z
    case F =>
      intro w mg fa h Y G hmg0
      obtain ⟨K, KX, c⟩ := Y
      have hmg : mg ("law" : PySem.Str) = some (.ref fa) := by
        have e : (HandSHeadRun.topDef (PySem.W.OpenLaw.row PySem.Challenge.rw_rollgates_k52_whole_halls_shut_out).prog 47).name = ("law" : PySem.Str) := by kernel_rfl
        rw [← e]
        exact hmg0
      exact ⟨K, KX, RG.law_at KX G c hmg⟩

