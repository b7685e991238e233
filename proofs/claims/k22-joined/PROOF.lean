import PyProof.Rows.All
import Wide.All
import OpenK.AllK
import Wide.FinOn
import KE.KStateDown
import HandS.ForMost
import HandS.ForExc
import HandS.Defaults
import HandS.Lambda
import HandS.EndTab
import HandS.HeadWalk
import HandS.Head0
import HandS.Head1
import HandS.Head2
import HandS.HeadEnd
import HandS.HeadHook1
import HandS.HeadHook2
import HandS.HeadHook3
import HandS.HeadHook4
import HandS.ExcCtx
import HandS.HotCalls
import HandS.IsInst
import HandS.Wide
import HandS.Walk
import HandS.Zip
import HandS.Conv
import HandS.SortInts
import HandS.TupAny
import HandS.Deep
import HandS.Style
import KE.GoesEnum
import KE.GoesMore
import HandS.ExcIs
import HandS.ExcField
import HandS.TupMul
import PySem.Challenge.RW_rollgates_k22_whole_plain_and_joined
set_option Elab.async false
set_option linter.all false
set_option maxRecDepth 100000
set_option maxHeartbeats 4000000
/-! ### RG core: what every law's proof leans on (own words over the hand layer) -/
namespace RG
open PySem PySem.Spec PyProof.Rows L2

/-! a def of the top, kept by its promise -/
abbrev CXN (P : Program) (w : World) : CXT := L2N.CX P w
/-- every parameter is given, whatever the heap -/
def BindsE (fd : FuncData) (ps : List Str) : Prop := ∀ (s : Shared) (us : List Value), us.length = ps.length → BindsTo s fd ⟨us, []⟩ (ps.zip us)
theorem BindsE.binds {K : PySem.W.Frag} {fd : FuncData} {ps : List Str} (b : BindsE fd ps) : Binds K fd ps [] := fun s us _ hl => by
  rw [List.append_nil] at hl ⊢
  exact b s us hl
def fdAt (K : PySem.W.Frag) (a : Addr) : Option FuncData := match K.lookup a with
  | some ⟨_, _, .func fd, _⟩ => some fd
  | _ => none
structure Ok (P : Program) (w : World) (K : PySem.W.Frag) (mg : Str → Option Value) (base : Heap) (k : Nat) (x : Str) (ps : List Str) (sp : Sp) : Prop where
  gl : mg x = some (.ref (He.ga K x))
  kp : PySem.W.keepIn K (.ref (He.ga K x)) = true
  ex : ∃ fd, fdAt K (He.ga K x) = some fd ∧ BindsE fd ps ∧ FnOk P w K mg base (CXN P w) k (He.ga K x) fd ps sp
/-- how a text's arguments bind when all are given -/
def BindAll (x : Str) (st : Stmt) (ps : List Str) : Prop := ∀ (kV doc pm : Value) (an : Option Addr) (cdv ct : Value) (us : List Value), us.length = ps.length →
  bindArgs (PySem.W.fnOf x x (defArgs st) (defBody st) (defScope st) .none kV doc pm an cdv ct) ⟨us, []⟩ = pure (ps.zip us)
abbrev FnAt (K : PySem.W.Frag) (x : Str) (st : Stmt) : Prop := ∃ fd, FunD K x x (defArgs st) (defBody st) (defScope st) [] [] (He.ga K x) fd
section
variable {P : Program} {w : World} {K : PySem.W.Frag} {mg : Str → Option Value} {base : Heap}
theorem Ok.mk' {x : Str} {st : Stmt} {N ps : List Str} {k : Nat} {sp : Sp} (G : mg x = some (.ref (He.ga K x))) (F : FnAt K x st) (b : BindAll x st ps) (S : FnScope N ps (defScope st)) (len : ∀ vs H Q E, sp vs H Q E → vs.length = ps.length)
    (body : ∀ (cdv : Value) (A : Around) (outer : List Env) (s : Shared) (H : Hp) (vs : List V) (Q : VK) (E : XK), Room k (A.deeper (envOfC x (defScope st) s.heap.objs.size (He.ga K x) cdv)) → sp vs H Q E →
      ∃ t, PSs (cxOf (CXN P w) P w K mg base N x (defScope st) (He.ga K x) cdv A outer s H E) (defBody st) t ∧ t { nx := fun _ H' => Q .non H', rt := Q } (start N vs) H) : Ok P w K mg base (k + 1) x ps sp := by
  obtain ⟨fd, F⟩ := F
  have e : fdAt K (He.ga K x) = some fd := by
    obtain ⟨oc, od, dV, kV, doc, pm, an, cdv, ct, osl, rfl, lk, _⟩ := F.ex
    unfold fdAt
    rw [lk]
  exact ⟨G, F.kp, fd, e, F.bindsA b, F.ok S len body⟩
theorem Ok.mono {x : Str} {ps : List Str} {j k : Nat} {sp : Sp} (G : Ok P w K mg base j x ps sp) (h : j ≤ k) : Ok P w K mg base k x ps sp := by
  obtain ⟨g, kp, fd, fe, b, F⟩ := G
  exact ⟨g, kp, fd, fe, b, F.mono h⟩
theorem Ok.imp {x : Str} {ps : List Str} {k : Nat} {sp sp' : Sp} (G : Ok P w K mg base k x ps sp) (h : ∀ vs H Q E, sp' vs H Q E → sp vs H Q E) : Ok P w K mg base k x ps sp' := by
  obtain ⟨g, kp, fd, fe, b, F⟩ := G
  exact ⟨g, kp, fd, fe, b, F.imp h⟩
end
section
variable {X : Cx}
/-- nothing is let out -/
theorem pn0 : Passes (CXN X.prog X.w) X E0 := fun _ _ _ _ _ _ _ h => by
  obtain ⟨_, _, _, _, _, _, _, _, _, _, _, _, z⟩ := h
  exact z.elim
/-- what a callee lets out leaves this def too -/
theorem pnx {E : XK} (tk : L2N.Takes X (fun cls d _ H => E cls d H)) : Passes (CXN X.prog X.w) X E := L2N.passes_call tk fun _ _ _ _ h => h
/-- f(e, ..) of an own def -/
theorem pe_f {j k : Nat} {x : Str} {ps : List Str} {sp : Sp} {E : XK} {p pos : Pos} {e : Expr} {es : List Expr} {t : TA} (G : Ok X.prog X.w X.K X.mg X.base j x ps sp) (hr : Room k X.A) (hx : Passes (CXN X.prog X.w) X E) (ha : PA X (e :: es) t)
    (hk : j ≤ k := by first | decide | omega) (hg : Gl X x := by rfl) (hdb : (x == ("__debug__" : Str)) = false := by decide)
    (he : starEach (e :: es) X.env = (false, eval e X.env) :: starEach es X.env := by rfl) (hpl : (backTo pos (starEach es X.env)).any (·.1) = false := by rfl) :
    PE X (.Call (.Name x p) (e :: es) [] pos) (tCall sp [] E t) := by
  obtain ⟨g, kp, fd, fe, b, F⟩ := G
  exact pe_call F (hr.mono hk) hg g kp b.binds .nil hx ha hdb he hpl
/-- f() -/
theorem pe_f0 {j k : Nat} {x : Str} {ps : List Str} {sp : Sp} {E : XK} {p pos : Pos} (G : Ok X.prog X.w X.K X.mg X.base j x ps sp) (hr : Room k X.A) (hx : Passes (CXN X.prog X.w) X E)
    (hk : j ≤ k := by first | decide | omega) (hg : Gl X x := by rfl) (hdb : (x == ("__debug__" : Str)) = false := by decide) :
    PE X (.Call (.Name x p) [] [] pos) (tCall sp [] E tNil) := by
  obtain ⟨g, kp, fd, fe, b, F⟩ := G
  exact pe_call0 F (hr.mono hk) hg g kp b.binds .nil hx hdb
/-- a constant of the module -/
theorem pe_gi {x : Str} {i : Int} {pos : Pos} (h : ∃ t, X.mg x = some (.int i t)) (hg : Gl X x := by rfl) (hd : (x == ("__debug__" : Str)) = false := by decide) : PE X (.Name x pos) (tC (.int i)) := by
  obtain ⟨t, h⟩ := h
  exact pe_glob hg h ⟨t, rfl⟩ hd
theorem pe_gs {x z : Str} {pos : Pos} (h : ∃ t, X.mg x = some (.str z t)) (hg : Gl X x := by rfl) (hd : (x == ("__debug__" : Str)) = false := by decide) : PE X (.Name x pos) (tC (.str z)) := by
  obtain ⟨t, h⟩ := h
  exact pe_glob hg h ⟨t, rfl⟩ hd
end
/-- what is known of an own exception class without __init__ -/
structure Exn (K : PySem.W.Frag) (mg : Str → Option Value) (x : Str) : Prop where
  gl : mg x = some (.ref (He.ga K x))
  ok : (He.Fa.exc x).ok K = true
/-- raise X('..') -/
theorem ps_rz {X : Cx} {E : XK} {x m : Str} {j : Nat} {p p2 pos pos' : Pos} (T : Exn X.K X.mg x) (tk : L2N.Takes X (fun cls d _ H => E cls d H)) (hc : X.calm = true := by rfl) (hg : Gl X x := by rfl) (hdb : (x == ("__debug__" : Str)) = false := by decide) :
    PS X (.Raise (some (.Call (.Name x p) [.Constant (.str m) j p2] [] pos)) none pos') (fun _ _ H => E (.ref (He.ga X.K x)) none H) := by
  obtain ⟨a, b, c, d⟩ := He.exc_ok T.ok
  exact L2N.ps_raise hc tk (L2N.pmk_own PySem.F.excBase_ValueError a T.gl b (raises_own c d) hg hdb)

/-! heaps -/
theorem Same.new {H : Hp} {p : Addr} {o : HO} (h : H p = none) : Same H (upd H p o) := fun a u e => by
  rw [upd_ne (ne_of_none e h)]
  exact e
theorem Same.tup {K : PySem.W.Frag} {H H' : Hp} {a : Addr} {xs : List V} (e : Same H H') (h : SqT K H a xs) : SqT K H' a xs := by
  rcases h with (h | ⟨o, h⟩) | h
  · exact .inl (.inl (e _ _ h))
  · exact .inl (.inr ⟨o, e _ _ h⟩)
  · exact .inr h
theorem tup_s {K : PySem.W.Frag} {H H' : Hp} {a : Addr} {xs : List V} (e : Same H H') (h : SqT K H a xs) : SqT K H' a xs := Same.tup e h
theorem tupOf {K : PySem.W.Frag} {H : Hp} {a : Addr} {xs : List V} (h : H a = some (.tup xs)) : SqT K H a xs := .inl (.inl h)
theorem lstOf {K : PySem.W.Frag} {H : Hp} {a : Addr} {xs : List V} (h : H a = some (.lst xs)) : SqL K H a xs := .inl (.inl h)
/-- the dice: a list of two ints -/
def Dice (H : Hp) (a : Addr) : Prop := ∃ x k : Int, H a = some (.lst [.int x, .int k])
/-- all but the dice at a is as it was -/
structure But (a : Addr) (H H' : Hp) : Prop where
  d0 : Dice H a
  d1 : Dice H' a
  kp : ∀ b o, H b = some o → b ≠ a → H' b = some o
theorem Dice.same {H H' : Hp} {a : Addr} (d : Dice H a) (s : Same H H') : Dice H' a := by
  obtain ⟨x, k, h⟩ := d
  exact ⟨x, k, s _ _ h⟩
theorem Dice.ne {H : Hp} {a p : Addr} (d : Dice H a) (h : H p = none) : p ≠ a := by
  obtain ⟨x, k, h1⟩ := d
  exact (ne_of_none h1 h).symm
theorem But.refl {a : Addr} {H : Hp} (d : Dice H a) : But a H H := ⟨d, d, fun _ _ h _ => h⟩
theorem But.same {a : Addr} {H H1 H2 : Hp} (b : But a H H1) (s : Same H1 H2) : But a H H2 := ⟨b.d0, b.d1.same s, fun c o h n => s c o (b.kp c o h n)⟩
theorem But.of {a : Addr} {H H1 : Hp} (d : Dice H a) (s : Same H H1) : But a H H1 := (But.refl d).same s
theorem But.trans {a : Addr} {H H1 H2 : Hp} (b : But a H H1) (c : But a H1 H2) : But a H H2 := ⟨b.d0, c.d1, fun d o h n => c.kp d o (b.kp d o h n) n⟩
theorem But.new {a : Addr} {H H1 : Hp} {p : Addr} {o : HO} (b : But a H H1) (h : H1 p = none) : But a H (upd H1 p o) := b.same (Same.new h)
theorem But.free {a : Addr} {H H1 : Hp} {p : Addr} (b : But a H H1) (h : H1 p = none) : H p = none := by
  cases e : H p with
  | none => rfl
  | some o =>
    by_cases hp : p = a
    · subst hp
      exact absurd rfl (b.d1.ne h)
    · rw [b.kp p o e hp] at h
      cases h
/-- a change of an object that H does not know -/
theorem But.mut {a : Addr} {H H1 : Hp} {p : Addr} {o : HO} (b : But a H H1) (h : H p = none) (np : p ≠ a) : But a H (upd H1 p o) := by
  refine ⟨b.d0, ?_, fun c u e n => ?_⟩
  · obtain ⟨x, k, h1⟩ := b.d1
    exact ⟨x, k, by rw [upd_ne np.symm]; exact h1⟩
  · rw [upd_ne (ne_of_none e h)]
    exact b.kp c u e n
theorem But.tup {K : PySem.W.Frag} {a : Addr} {H H' : Hp} {b : Addr} {xs : List V} (e : But a H H') (h : SqT K H b xs) : SqT K H' b xs := by
  obtain ⟨x, k, hd⟩ := e.d0
  rcases h with (h | ⟨o, h⟩) | h
  · exact .inl (.inl (e.kp _ _ h fun z => by subst z; rw [hd] at h; cases h))
  · exact .inl (.inr ⟨o, e.kp _ _ h fun z => by subst z; rw [hd] at h; cases h⟩)
  · exact .inr h
/-- a change of a list never bears on a tuple -/
theorem tup_mut {K : PySem.W.Frag} {H : Hp} {a p : Addr} {o : HO} {xs ys : List V} (hp : H p = some (.lst ys)) (h : SqT K H a xs) : SqT K (upd H p o) a xs := by
  rcases h with (h | ⟨u, h⟩) | h
  · exact .inl (.inl (by rw [upd_ne (ne_of h hp (by intro z; cases z))]; exact h))
  · exact .inl (.inr ⟨u, by rw [upd_ne (ne_of h hp (by intro z; cases z))]; exact h⟩)
  · exact .inr h
theorem sz {n : Nat} (h : n ≤ 100000) : n ≤ sizeLine := Nat.le_trans h (by decide)
theorem szl {n : Nat} (h : n < 100000) : n < sizeLine := Nat.lt_of_lt_of_le h (by decide)
theorem if_t {c : Bool} {A B : Prop} (hc : c = true) (h : A) : if c = true then A else B := by
  rw [if_pos hc]
  exact h
theorem if_f {c : Bool} {A B : Prop} (hc : c = false) (h : B) : if c = true then A else B := by
  rw [hc, if_neg Bool.false_ne_true]
  exact h
theorem if_b {c : Bool} {A B : Prop} (h1 : c = true → A) (h2 : c = false → B) : if c = true then A else B := by
  cases c with
  | true => exact if_t rfl (h1 rfl)
  | false => exact if_f rfl (h2 rfl)
end RG
/-! ### data -/
namespace RG
open PySem PySem.Spec PyProof.Rows L2
mutual
theorem Same.dp {K : PySem.W.Frag} {H H' : Hp} (s : Same H H') : ∀ {v : V} {d : PyData}, Dp K H v d → Dp K H' v d
  | _, _, .non => .non
  | _, _, .bl b => .bl b
  | _, _, .int i => .int i
  | _, _, .str x => .str x
  | _, _, .lst h a => .lst (s.seq h) (Same.dpAll s a)
  | _, _, .tup h a => .tup (RG.Same.tup s h) (Same.dpAll s a)
theorem Same.dpAll {K : PySem.W.Frag} {H H' : Hp} (s : Same H H') : ∀ {vs : List V} {ds : List PyData}, DpAll K H vs ds → DpAll K H' vs ds
  | _, _, .nil => .nil
  | _, _, .cons a b => .cons (Same.dp s a) (Same.dpAll s b)
end
theorem dp_s {K : PySem.W.Frag} {H H' : Hp} {v : V} {d : PyData} (e : Same H H') (h : Dp K H v d) : Dp K H' v d := Same.dp e h
theorem dps_s {K : PySem.W.Frag} {H H' : Hp} {v : List V} {d : List PyData} (e : Same H H') (h : DpAll K H v d) : DpAll K H' v d := Same.dpAll e h
mutual
/-- no list, no dict within -/
def imm : PyData → Bool
  | .none => true
  | .bool _ => true
  | .int _ => true
  | .str _ => true
  | .tuple xs => immAll xs
  | .list _ => false
  | .dict _ => false
def immAll : List PyData → Bool
  | [] => true
  | x :: xs => imm x && immAll xs
end
mutual
theorem But.dp {K : PySem.W.Frag} {a : Addr} {H H' : Hp} (s : But a H H') : ∀ {v : V} {d : PyData}, imm d = true → Dp K H v d → Dp K H' v d
  | _, _, _, .non => .non
  | _, _, _, .bl b => .bl b
  | _, _, _, .int i => .int i
  | _, _, _, .str x => .str x
  | _, _, i, .lst h a => by simp [imm] at i
  | _, _, i, .tup h a => .tup (s.tup h) (But.dpAll s (by simpa [imm] using i) a)
theorem But.dpAll {K : PySem.W.Frag} {a : Addr} {H H' : Hp} (s : But a H H') : ∀ {vs : List V} {ds : List PyData}, immAll ds = true → DpAll K H vs ds → DpAll K H' vs ds
  | _, _, _, .nil => .nil
  | _, _, i, .cons a b => by
    simp [immAll] at i
    exact .cons (But.dp s i.1 a) (But.dpAll s i.2 b)
end
theorem dpAll_len {K : PySem.W.Frag} {H : Hp} : ∀ {vs : List V} {ds : List PyData}, DpAll K H vs ds → vs.length = ds.length
  | _, _, .nil => rfl
  | _, _, .cons _ b => by simp [dpAll_len b]
theorem dpAll_get {K : PySem.W.Frag} {H : Hp} : ∀ {vs : List V} {ds : List PyData} {i : Nat} {d : PyData}, DpAll K H vs ds → ds[i]? = some d → ∃ v, vs[i]? = some v ∧ Dp K H v d
  | _, _, _, _, .nil, e => by simp at e
  | _, _, 0, _, .cons a _, e => by
    simp at e
    subst e
    exact ⟨_, rfl, a⟩
  | _, _, i + 1, d, .cons _ b, e => by
    obtain ⟨v, h1, h2⟩ := dpAll_get (i := i) (d := d) b (by simpa using e)
    exact ⟨v, by simpa using h1, h2⟩
theorem dpAll_getV {K : PySem.W.Frag} {H : Hp} : ∀ {vs : List V} {ds : List PyData} {i : Nat} {v : V}, DpAll K H vs ds → vs[i]? = some v → ∃ d, ds[i]? = some d ∧ Dp K H v d
  | _, _, _, _, .nil, e => by simp at e
  | _, _, 0, _, .cons a _, e => by
    simp at e
    subst e
    exact ⟨_, rfl, a⟩
  | _, _, i + 1, d, .cons _ b, e => by
    obtain ⟨v, h1, h2⟩ := dpAll_getV (i := i) b (by simpa using e)
    exact ⟨v, by simpa using h1, h2⟩
theorem dpAll_app {K : PySem.W.Frag} {H : Hp} : ∀ {vs us : List V} {ds es : List PyData}, DpAll K H vs ds → DpAll K H us es → DpAll K H (vs ++ us) (ds ++ es)
  | _, _, _, _, .nil, h => h
  | _, _, _, _, .cons a b, h => .cons a (dpAll_app b h)
theorem dpAll_ints {K : PySem.W.Frag} {H : Hp} : ∀ ns : List Int, DpAll K H (ns.map V.int) (ns.map PyData.int)
  | [] => .nil
  | n :: ns => .cons (.int n) (dpAll_ints ns)
def tyD : PyData → String
  | .none => "NoneType"
  | .bool _ => "bool"
  | .int _ => "int"
  | .str _ => "str"
  | .list _ => "list"
  | .tuple _ => "tuple"
  | .dict _ => "dict"
theorem dpAll_intsV {K : PySem.W.Frag} {H : Hp} : ∀ {ns : List Int} {vs : List V}, DpAll K H vs (ns.map PyData.int) → vs = ns.map V.int
  | [], _, .nil => rfl
  | n :: ns, _, .cons a b => by
    cases a
    rw [dpAll_intsV b]
    rfl
theorem dp_ty {K : PySem.W.Frag} {H : Hp} {v : V} {d : PyData} (h : Dp K H v d) : TyX K H v (.type (tyD d)) := by
  cases h with
  | non => exact .base .non
  | bl b => exact .base (.bl b)
  | int i => exact .base (.int i)
  | str x => exact .base (.str x)
  | lst h a =>
    rcases h with (h | ⟨o, h⟩) | ⟨o, its, n, h1, h2, _⟩
    · exact .base (.lst h)
    · exact .base (.frz h)
    · exact .kList h1 h2
  | tup h a =>
    rcases h with (h | ⟨o, h⟩) | ⟨o, its, n, h1, h2, _⟩
    · exact .base (.tup h)
    · exact .fTuple h
    · exact .kTuple h1 h2
def isIntD : PyData → Bool
  | .int _ => true
  | .bool _ => true
  | _ => false
def isBoolD : PyData → Bool
  | .bool _ => true
  | _ => false
def isTupD : PyData → Bool
  | .tuple _ => true
  | _ => false
def isStrD : PyData → Bool
  | .str _ => true
  | _ => false
def isListD : PyData → Bool
  | .list _ => true
  | _ => false
section
variable {K : PySem.W.Frag} {H : Hp} {v : V} {d : PyData} {Q : VK}
theorem isi_int (h : Dp K H v d) (q : Q (.bl (isIntD d)) H) : rIsi K [v, .ty "int"] H Q := by
  refine ⟨v, _, _, _, isIntD d, rfl, .ty _, dp_ty h, ?_, q⟩
  cases d <;> exact kit_ty (by kernel_rfl)
theorem isi_bool (h : Dp K H v d) (q : Q (.bl (isBoolD d)) H) : rIsi K [v, .ty "bool"] H Q := by
  refine ⟨v, _, _, _, isBoolD d, rfl, .ty _, dp_ty h, ?_, q⟩
  cases d <;> exact kit_ty (by kernel_rfl)
theorem isi_tuple (h : Dp K H v d) (q : Q (.bl (isTupD d)) H) : rIsi K [v, .ty "tuple"] H Q := by
  refine ⟨v, _, _, _, isTupD d, rfl, .ty _, dp_ty h, ?_, q⟩
  cases d <;> exact kit_ty (by kernel_rfl)
theorem isi_str (h : Dp K H v d) (q : Q (.bl (isStrD d)) H) : rIsi K [v, .ty "str"] H Q := by
  refine ⟨v, _, _, _, isStrD d, rfl, .ty _, dp_ty h, ?_, q⟩
  cases d <;> exact kit_ty (by kernel_rfl)
theorem isi_list (h : Dp K H v d) (q : Q (.bl (isListD d)) H) : rIsi K [v, .ty "list"] H Q := by
  refine ⟨v, _, _, _, isListD d, rfl, .ty _, dp_ty h, ?_, q⟩
  cases d <;> exact kit_ty (by kernel_rfl)
theorem dp_tuple {ds : List PyData} (h : Dp K H v (.tuple ds)) : ∃ a xs, v = .ref a ∧ SqT K H a xs ∧ DpAll K H xs ds := by
  cases h with
  | tup h a => exact ⟨_, _, rfl, h, a⟩
theorem dp_list {ds : List PyData} (h : Dp K H v (.list ds)) : ∃ a xs, v = .ref a ∧ SqL K H a xs ∧ DpAll K H xs ds := by
  cases h with
  | lst h a => exact ⟨_, _, rfl, h, a⟩
theorem dp_int {i : Int} (h : Dp K H v (.int i)) : v = .int i := by
  cases h
  rfl
theorem dp_str {x : Str} (h : Dp K H v (.str x)) : v = .str x := by
  cases h
  rfl
/-- an item of a tuple that is data -/
theorem ix_data {ds : List PyData} {j : Nat} {e : PyData} {u : V} (h : Dp K H v (.tuple ds)) (hj : ds[j]? = some e) (q : ∀ u, Dp K H u e → Q u H) : rIxT K v (.int (j : Nat)) H Q := by
  obtain ⟨a, xs, rfl, hs, ha⟩ := dp_tuple h
  obtain ⟨u, hu, du⟩ := dpAll_get ha hj
  exact ⟨a, xs, _, u, rfl, rfl, hs, atI_nat hu, q u du⟩
theorem len_tup {ds : List PyData} (h : Dp K H v (.tuple ds)) (q : Q (.int (ds.length : Nat)) H) : ∃ x n, [v] = [x] ∧ LenV K x H n ∧ Q (.int (n : Nat)) H := by
  obtain ⟨a, xs, rfl, hs, ha⟩ := dp_tuple h
  exact ⟨_, ds.length, rfl, .inr ⟨xs, hs, (dpAll_len ha).symm⟩, q⟩
end
end RG
/-! ### readings, step by step -/
namespace RG
open PySem PySem.Spec PyProof.Rows L2
abbrev oAdd : R2 := rI0 fun i j => .int (i + j)
abbrev oSub : R2 := rI0 fun i j => .int (i - j)
abbrev oMul : R2 := rI CMul fun i j => .int (i * j)
abbrev oMulW : R2 := rI CMulW fun i j => .int (i * j)
abbrev oDiv : R2 := rI CDivW fun i j => .int (i / j)
abbrev oMod : R2 := rI (fun _ j => 0 < j) fun i j => .int (i % j)
abbrev oPow : R2 := rI CPow fun i j => .int (i ^ j.toNat)
abbrev oLt : R2 := rI0 fun i j => .bl (decide (i < j))
abbrev oLe : R2 := rI0 fun i j => .bl (decide (i ≤ j))
abbrev oGt : R2 := rI0 fun i j => .bl (decide (j < i))
abbrev oGe : R2 := rI0 fun i j => .bl (decide (j ≤ i))
def oIsN : R2 := fun x y H Q => y = .non ∧ Q (.bl (decide (x = .non))) H
def oNotN : R2 := fun x y H Q => y = .non ∧ Q (.bl (!decide (x = .non))) H
def oAddS : R2 := fun x y H Q => ∃ i j, x = .str i ∧ y = .str j ∧ i.length + j.length ≤ sizeLine ∧ Q (.str (i ++ j)) H
def cLen (K : PySem.W.Frag) : List V → Hp → VK → Prop := fun xs H Q => ∃ x n, xs = [x] ∧ LenV K x H n ∧ Q (.int (n : Nat)) H
def cMax2 : List V → Hp → VK → Prop := fun xs H Q => ∃ i j, xs = [.int i, .int j] ∧ Q (.int (if j > i then j else i)) H
def cMin2 : List V → Hp → VK → Prop := fun xs H Q => ∃ i j, xs = [.int i, .int j] ∧ Q (.int (if j < i then j else i)) H
def cInt1 : List V → Hp → VK → Prop := fun xs H Q => (∃ i, xs = [.int i] ∧ Q (.int i) H) ∨ ∃ k, xs = [.bl k] ∧ Q (.int (if k then 1 else 0)) H
def cTuple (K : PySem.W.Frag) : List V → Hp → VK → Prop := fun xs H Q => ∃ p ys, xs = [.ref p] ∧ ((SqL K H p ys ∧ ∀ l, H l = none → Q (.ref l) (upd H l (.tup ys))) ∨ (SqT K H p ys ∧ Q (.ref p) H))
def cList (K : PySem.W.Frag) : List V → Hp → VK → Prop := fun xs H Q => ∃ p ys, xs = [.ref p] ∧ (SqL K H p ys ∨ SqT K H p ys) ∧ ∀ l, H l = none → Q (.ref l) (upd H l (.lst ys))
abbrev NewL (xs : List V) (H : Hp) (Q : VK) : Prop := xs.length ≤ sizeLine ∧ ∀ p, H p = none → Q (.ref p) (upd H p (.lst xs))
abbrev NewT (xs : List V) (H : Hp) (Q : VK) : Prop := xs.length ≤ sizeLine ∧ ∀ p, H p = none → Q (.ref p) (upd H p (.tup xs))
def tRz (K : PySem.W.Frag) (E : XK) (x : Str) : TS := fun _ _ H => E (.ref (He.ga K x)) none H
section
variable {K : PySem.W.Frag} {σ : L2.St} {H : Hp} {D : Ends} {t u : TS} {te ta tb tc : TE} {Q : VK} {g : TG} {x y v : V} {i : Nat} {tA tB' : TT} {QB : Bool → Hp → Prop} {ts : TA} {QA : List V → Hp → Prop} {E : XK} {sp : Sp}
theorem w_seq (h : t { D with nx := u D } σ H) : tSeq t u D σ H := h
theorem w_next (h : D.nx σ H) : tNext D σ H := h
theorem w_ret (h : te σ H D.rt) : tRet te D σ H := h
theorem w_retN (h : D.rt .non H) : tRetN D σ H := h
theorem w_drop (h : te σ H fun _ H1 => D.nx σ H1) : tDrop te D σ H := h
theorem w_ifs (h : tA σ H fun b H1 => if b = true then t D σ H1 else u D σ H1) : tIfS tA t u D σ H := h
theorem w_set (h : te σ H fun x H1 => D.nx (σ.set i (some x)) H1) : tAsg te (gName i) D σ H := h
theorem w_asg (h : te σ H fun x H1 => g x σ H1 D.nx) : tAsg te g D σ H := h
theorem w_par {j : Nat} (h : ts σ H fun vs H1 => ∃ v w, vs = [v, w] ∧ D.nx ((σ.set i (some v)).set j (some w)) H1) : tPar i j ts D σ H := h
theorem w_rz (h : E (.ref (He.ga K z)) none H) : tRz K E z D σ H := h
theorem w_var (e : σ[i]? = some (some v)) (h : Q v H) : tVar i σ H Q := ⟨v, e, h⟩
theorem w_c (h : Q v H) : tC v σ H Q := h
theorem w_op {r : R2} (h : ta σ H fun x H1 => tb σ H1 fun y H2 => r x y H2 Q) : tOp r ta tb σ H Q := h
theorem w_un {r : V → Hp → VK → Prop} (h : ta σ H fun x H1 => r x H1 Q) : tUn r ta σ H Q := h
theorem w_I0 {f : Int → Int → V} {m n : Int} (h : Q (f m n) H) : rI0 f (.int m) (.int n) H Q := ⟨m, n, rfl, rfl, h⟩
theorem w_I {C : Int → Int → Prop} {f : Int → Int → V} {m n : Int} (c : C m n) (h : Q (f m n) H) : rI C f (.int m) (.int n) H Q := ⟨m, n, rfl, rfl, c, h⟩
theorem w_U {f : Int → V} {m : Int} (h : Q (f m) H) : rU f (.int m) H Q := ⟨m, rfl, h⟩
theorem w_eq (e : scal x y = true) (h : Q (.bl (decide (x = y))) H) : rEq x y H Q := ⟨e, h⟩
theorem w_ne (e : scal x y = true) (h : Q (.bl (!decide (x = y))) H) : rNe x y H Q := ⟨e, h⟩
theorem w_eqI {m n : Int} (h : Q (.bl (decide (m = n))) H) : rEq (.int m) (.int n) H Q := ⟨rfl, by
  have e : decide (V.int m = V.int n) = decide (m = n) := by simp
  rw [e]
  exact h⟩
theorem w_neI {m n : Int} (h : Q (.bl (!decide (m = n))) H) : rNe (.int m) (.int n) H Q := ⟨rfl, by
  have e : decide (V.int m = V.int n) = decide (m = n) := by simp
  rw [e]
  exact h⟩
theorem w_eqS {m n : Str} (h : Q (.bl (decide (m = n))) H) : rEq (.str m) (.str n) H Q := ⟨rfl, by
  have e : decide (V.str m = V.str n) = decide (m = n) := by simp
  rw [e]
  exact h⟩
theorem w_isN (h : Q (.bl (decide (x = .non))) H) : oIsN x .non H Q := ⟨rfl, h⟩
theorem w_notN (h : Q (.bl (!decide (x = .non))) H) : oNotN x .non H Q := ⟨rfl, h⟩
theorem w_chain {r r' : R2} (h : ta σ H fun x H1 => tb σ H1 fun y H2 => r x y H2 fun z H3 => ∃ k, z = .bl k ∧ if k = true then tc σ H3 fun w H4 => r' y w H4 Q else Q (.bl false) H3) : tChain r r' ta tb tc σ H Q := h
theorem w_test (h : te σ H fun x H1 => ∃ k, x = .bl k ∧ QB k H1) : tTest te σ H QB := h
theorem w_B (h : te σ H fun x H1 => ∃ k, x = .bl k ∧ QB k H1) : tB te σ H QB := h
theorem w_and (h : tA σ H fun c H1 => if c = true then tB' σ H1 QB else QB false H1) : tAnd tA tB' σ H QB := h
theorem w_or (h : tA σ H fun c H1 => if c = true then QB true H1 else tB' σ H1 QB) : tOr tA tB' σ H QB := h
theorem w_not (h : tA σ H fun c H1 => QB (!c) H1) : tNot tA σ H QB := h
theorem w_andV (h : ta σ H fun x H1 => ∃ c, x = .bl c ∧ if c = true then tb σ H1 Q else Q (.bl false) H1) : tAndV ta tb σ H Q := h
theorem w_orV (h : ta σ H fun x H1 => ∃ c, x = .bl c ∧ if c = true then Q (.bl true) H1 else tb σ H1 Q) : tOrV ta tb σ H Q := h
theorem w_notV (h : ta σ H fun x H1 => ∃ c, x = .bl c ∧ Q (.bl (!c)) H1) : tNotV ta σ H Q := h
theorem w_if (h : tA σ H fun c H1 => if c = true then ta σ H1 Q else tb σ H1 Q) : tIf tA ta tb σ H Q := h
theorem w_nil (h : QA [] H) : tNil σ H QA := h
theorem w_cons (h : te σ H fun x H1 => ts σ H1 fun xs H2 => QA (x :: xs) H2) : tCons te ts σ H QA := h
theorem w_tup (h : ts σ H fun xs H1 => NewT xs H1 Q) : tTup ts σ H Q := h
theorem w_lst (h : ts σ H fun xs H1 => NewL xs H1 Q) : tLst ts σ H Q := h
theorem w_call (h : ts σ H fun vs H1 => sp (vs ++ []) H1 Q E) : tCall sp [] E ts σ H Q := h
theorem w_cb {r : List V → Hp → VK → Prop} (h : ts σ H fun vs H1 => r vs H1 Q) : tCB r ts σ H Q := h
theorem w_sl {r : V → Option Int → Option Int → Hp → VK → Prop} {tl th : TO} (h : te σ H fun x H1 => tl σ H1 fun l H2 => th σ H2 fun u H3 => r x l u H3 Q) : tSl r te tl th σ H Q := h
theorem w_part {QO : Option Int → Hp → Prop} (h : te σ H fun x H1 => ∃ k, x = .int k ∧ QO (some k) H1) : tPart te σ H QO := h
theorem w_noPart {QO : Option Int → Hp → Prop} (h : QO none H) : tNoPart σ H QO := h
theorem w_bm {T : String} {r : V → List V → Hp → VK → Prop} (h : te σ H fun x H1 => tyV K T x H1 ∧ ts σ H1 fun xs H2 => r x xs H2 Q) : tBM K T r te ts σ H Q := h
theorem w_bm0 {T : String} {r : V → List V → Hp → VK → Prop} (h : te σ H fun x H1 => tyV K T x H1 ∧ r x [] H1 Q) : tBM0 K T r te σ H Q := h
theorem w_sub {to ti : TE} {st : TSet} {R : L2.St → Hp → Prop} (h : to σ H fun o H1 => ti σ H1 fun i H2 => st o i v H2 fun H3 => R σ H3) : gSub to ti st v σ H R := h
theorem w_name {R : L2.St → Hp → Prop} (h : R (σ.set i (some v)) H) : gName i v σ H R := h
theorem w_max2 {m n : Int} (h : Q (.int (if n > m then n else m)) H) : cMax2 [.int m, .int n] H Q := ⟨m, n, rfl, h⟩
theorem w_min2 {m n : Int} (h : Q (.int (if n < m then n else m)) H) : cMin2 [.int m, .int n] H Q := ⟨m, n, rfl, h⟩
theorem w_intI {m : Int} (h : Q (.int m) H) : cInt1 [.int m] H Q := .inl ⟨m, rfl, h⟩
theorem w_intB {b : Bool} (h : Q (.int (if b then 1 else 0)) H) : cInt1 [.bl b] H Q := .inr ⟨b, rfl, h⟩
theorem w_lenT {a : Addr} {xs : List V} (s : SqT K H a xs) (h : Q (.int (xs.length : Nat)) H) : cLen K [.ref a] H Q := ⟨_, _, rfl, .inr ⟨xs, s, rfl⟩, h⟩
theorem w_lenL {a : Addr} {xs : List V} (s : SqL K H a xs) (h : Q (.int (xs.length : Nat)) H) : cLen K [.ref a] H Q := ⟨_, _, rfl, .inl ⟨xs, s, rfl⟩, h⟩
theorem w_lenS {z : Str} (s : z.length ≤ 100000) (h : Q (.int (z.length : Nat)) H) : cLen K [.str z] H Q := ⟨_, _, rfl, ⟨sz s, rfl⟩, h⟩
theorem w_lenD {d : List PyData} (s : Dp K H v (.tuple d)) (h : Q (.int (d.length : Nat)) H) : cLen K [v] H Q := by
  obtain ⟨a, xs, rfl, hs, ha⟩ := dp_tuple s
  exact ⟨_, _, rfl, .inr ⟨xs, hs, (dpAll_len ha).symm⟩, h⟩
theorem w_ixT {a : Addr} {xs : List V} {k : Int} (s : SqT K H a xs) (e : atI xs k = some v) (h : Q v H) : rIxT K (.ref a) (.int k) H Q := ⟨a, xs, k, v, rfl, rfl, s, e, h⟩
theorem w_ixL {a : Addr} {xs : List V} {k : Int} (s : SqL K H a xs) (e : atI xs k = some v) (h : Q v H) : rIxL K (.ref a) (.int k) H Q := ⟨a, xs, k, v, rfl, rfl, s, e, h⟩
theorem w_ixD {ds : List PyData} {j : Nat} {e : PyData} (s : Dp K H v (.tuple ds)) (hj : ds[j]? = some e) (q : ∀ u, Dp K H u e → Q u H) : rIxT K v (.int (j : Nat)) H Q := ix_data (u := .non) s hj q
theorem w_ixD0 {ds : List PyData} {e : PyData} (s : Dp K H v (.tuple (e :: ds))) (q : ∀ u, Dp K H u e → Q u H) : rIxT K v (.int 0) H Q := ix_data (j := 0) (u := .non) s rfl q
theorem w_ixD1 {ds : List PyData} {e e0 : PyData} (s : Dp K H v (.tuple (e0 :: e :: ds))) (q : ∀ u, Dp K H u e → Q u H) : rIxT K v (.int 1) H Q := ix_data (j := 1) (u := .non) s rfl q
theorem w_ixD2 {ds : List PyData} {e e0 e1 : PyData} (s : Dp K H v (.tuple (e0 :: e1 :: e :: ds))) (q : ∀ u, Dp K H u e → Q u H) : rIxT K v (.int 2) H Q := ix_data (j := 2) (u := .non) s rfl q
theorem w_setL {a : Addr} {xs : List V} {k : Int} {j : Nat} {R : Hp → Prop} (s : H a = some (.lst xs)) (e : ixN xs.length k = some j) (h : R (upd H a (.lst (xs.set j v)))) : rSetL (.ref a) (.int k) v H R := ⟨a, xs, k, j, rfl, rfl, s, e, h⟩
theorem w_app {a : Addr} {xs : List V} (s : H a = some (.lst xs)) (z : xs.length < 100000) (h : Q .non (upd H a (.lst (xs ++ [v])))) : rAppend (.ref a) [v] H Q := ⟨a, xs, v, rfl, rfl, s, szl z, h⟩
theorem w_eqD {d e : PyData} (hx : Dp K H x d) (hy : Dp K H y e) (sd : SeqAt.shaped d = true) (se : SeqAt.shaped e = true) (h : Q (.bl (PyData.eqv d e)) H) : rEqD K x y H Q := ⟨d, e, hx, hy, sd, se, h⟩
theorem w_neD {d e : PyData} (hx : Dp K H x d) (hy : Dp K H y e) (sd : SeqAt.shaped d = true) (se : SeqAt.shaped e = true) (h : Q (.bl (!PyData.eqv d e)) H) : rNeD K x y H Q := ⟨d, e, hx, hy, sd, se, h⟩
end
end RG
/-! ### loops and comprehensions -/
namespace RG
open PySem PySem.Spec PyProof.Rows L2
/-- what is left of a comprehension when its iterator stands -/
def LcGoal (J : It) (g : TG) (tt : TT) (te : TE) (vs : List Nat) (σ : L2.St) (H1 : Hp) (Q : VK) : Prop := ∀ D, H1 D = none → ∃ W : Nat → Nat → Hp → Prop, (∃ m, W 0 m (upd H1 D (.lst []))) ∧ ∀ i m H, W i m H →
  (J.stop i H ∧ Q (.ref D) H) ∨ (J.go i H ∧ ∃ Nx : Hp → Prop, (∀ H', Nx H' → ∃ m', m' < m ∧ W (i + 1) m' H') ∧ ∀ x H', J.yld i H x H' → g x (wipe σ vs) H' fun σ2 H2 => wipe σ2 vs = wipe σ vs ∧ tt σ2 H2 fun b H3 =>
    if b = true then te σ2 H3 fun y H4 => ∃ acc, H4 D = some (.lst acc) ∧ acc.length < sizeLine ∧ Nx (upd H4 D (.lst (acc ++ [y]))) else Nx H3)
def ForGoal (J : It) (g : TG) (tb : TS) (D : Ends) (σ : L2.St) (H1 : Hp) : Prop := ∃ W : Nat → Nat → L2.St → Hp → Prop, (∃ m, W 0 m σ H1) ∧ ∀ i m σ H, W i m σ H →
  (J.stop i H ∧ D.nx σ H) ∨ (J.go i H ∧ ∃ N : L2.St → Hp → Prop, (∀ σ' H', N σ' H' → ∃ m', m' < m ∧ W (i + 1) m' σ' H') ∧ ∀ x H', J.yld i H x H' → g x σ H' fun σ2 H2 => tb { D with nx := N, ct := N, bk := D.nx } σ2 H2)
/-- a turn's end that keeps an item, that keeps none -/
def LcNx (Iv : Nat → List V → Hp → Prop) (D : Addr) (i : Nat) (y : V) (H4 : Hp) : Prop := ∃ acc, H4 D = some (.lst acc) ∧ acc.length < sizeLine ∧ ∃ acc', acc'.length ≤ i + 1 ∧ (upd H4 D (.lst (acc ++ [y]))) D = some (.lst acc') ∧ Iv (i + 1) acc' (upd H4 D (.lst (acc ++ [y])))
def LcSk (Iv : Nat → List V → Hp → Prop) (D : Addr) (i : Nat) (H3 : Hp) : Prop := ∃ acc', acc'.length ≤ i + 1 ∧ H3 D = some (.lst acc') ∧ Iv (i + 1) acc' H3
section
variable {K : PySem.W.Frag} {σ : L2.St} {H : Hp} {D : Ends} {tb : TS} {te tl : TE} {Q : VK} {g : TG} {tt : TT} {wi : TI} {ta : TA} {vs : List Nat} {R : It → Hp → Prop} {J : It} {n : Nat} {G : Hp → Prop} {Y : Nat → Hp → V → Hp → Prop}
theorem w_lc (h : wi σ H fun J H1 => LcGoal J g tt te vs σ H1 Q) : tLc wi g tt te vs σ H Q := h
theorem w_for (h : wi σ H fun J H1 => ForGoal J g tb D σ H1) : tFor wi g tb D σ H := h
theorem w_rng1 (h : ta σ H fun vs H1 => ∃ j : Int, vs = [.int j] ∧ -(2 ^ 62) ≤ j ∧ j < 2 ^ 62 ∧ R (Itr 0 j.toNat) H1) : iRng1 ta σ H R := h
theorem w_rng2 (h : ta σ H fun vs H1 => ∃ i j : Int, vs = [.int i, .int j] ∧ (-(2 ^ 62) ≤ i ∧ i < 2 ^ 62 ∧ -(2 ^ 62) ≤ j ∧ j < 2 ^ 62) ∧ R (Itr i (j - i).toNat) H1) : iRng2 ta σ H R := h
theorem w_iList (h : tl σ H fun x H1 => ∃ a, x = .ref a ∧ (∃ xs, SqL K H1 a xs) ∧ R (Itl K a) H1) : iList K tl σ H R := h
theorem w_iTup (h : tl σ H fun x H1 => ∃ a, x = .ref a ∧ (∃ xs, SqT K H1 a xs) ∧ R (Itt K a) H1) : iTup K tl σ H R := h
theorem w_iEnum (h : ta σ H fun vs H1 => ∃ a xs, vs = [.ref a] ∧ SqL K H1 a xs ∧ R (Ite K a) H1) : iEnum K ta σ H R := h
theorem w_iZip (h : ta σ H fun vs H1 => ∃ a b xs ys, vs = [.ref a, .ref b] ∧ SqL K H1 a xs ∧ SqL K H1 b ys ∧ R (Itz K a b) H1) : iZip K ta σ H R := h
theorem for_go (w : Walk J n G Y) (Pv : Nat → L2.St → Hp → Prop) (h0 : Pv 0 σ H) (hG : ∀ i σ H, i ≤ n → Pv i σ H → G H)
    (hs : ∀ i x σ H H', i < n → Pv i σ H → Y i H x H' → g x σ H' fun σ2 H2 => tb { D with nx := Pv (i + 1), ct := Pv (i + 1), bk := D.nx } σ2 H2) (hd : ∀ σ H, Pv n σ H → D.nx σ H) : ForGoal J g tb D σ H := for_it w Pv h0 hG hs hd
theorem lc_go (w : Walk J n G Y) (hn : n ≤ 50000) (Iv : Addr → Nat → List V → Hp → Prop) (h0 : ∀ D, H D = none → Iv D 0 [] (upd H D (.lst [])))
    (hG : ∀ D i acc H', H D = none → H' D = some (.lst acc) → Iv D i acc H' → G H')
    (hs : ∀ D i acc x H' H'', H D = none → i < n → acc.length ≤ i → H' D = some (.lst acc) → Iv D i acc H' → Y i H' x H'' → g x (wipe σ vs) H'' fun σ2 H2 => wipe σ2 vs = wipe σ vs ∧ tt σ2 H2 fun b H3 =>
      if b = true then te σ2 H3 fun y H4 => LcNx (Iv D) D i y H4 else LcSk (Iv D) D i H3)
    (hd : ∀ D acc H', H D = none → H' D = some (.lst acc) → acc.length ≤ n → Iv D n acc H' → Q (.ref D) H') : LcGoal J g tt te vs σ H Q := fun D hD => by
  refine lc_it w (fun i H' => ∃ acc, acc.length ≤ i ∧ H' D = some (.lst acc) ∧ Iv D i acc H') ⟨[], Nat.le_refl _, upd_same, h0 D hD⟩ (fun i H' _ ⟨acc, _, a, b⟩ => hG D i acc H' hD a b) ?_ (fun H' ⟨acc, a, b, c⟩ => hd D acc H' hD b a c)
  rintro i x H' H'' hi ⟨acc, a, b, c⟩ y
  exact hs D i acc x H' H'' hD hi a b c y
theorem lc_nx {Iv : Nat → List V → Hp → Prop} {A : Addr} {i : Nat} {y : V} {H4 : Hp} {acc : List V} (hi : i < 90000) (hl : acc.length ≤ i) (h : H4 A = some (.lst acc)) (q : Iv (i + 1) (acc ++ [y]) (upd H4 A (.lst (acc ++ [y])))) : LcNx Iv A i y H4 :=
  ⟨acc, h, szl (by omega), acc ++ [y], by simp; omega, upd_same, q⟩
theorem lc_sk {Iv : Nat → List V → Hp → Prop} {A : Addr} {i : Nat} {H3 : Hp} {acc : List V} (hl : acc.length ≤ i) (h : H3 A = some (.lst acc)) (q : Iv (i + 1) acc H3) : LcSk Iv A i H3 := ⟨acc, by omega, h, q⟩
theorem w_lrg {tr : L2.St → Hp → (Int → Int → Hp → Prop) → Prop} (h : tr σ H fun a b H1 => RgOk a b ∧ ∀ q, H1 q = none → Q (.ref q) (upd H1 q (.lst (rgV a b)))) : tLstRg tr σ H Q := h
theorem w_rg1 {k : Int → Int → Hp → Prop} (h : te σ H fun x H1 => ∃ n : Int, x = .int n ∧ k 0 n H1) : tRg1 te σ H k := h
theorem w_yes {QB : Bool → Hp → Prop} (h : QB true H) : tYes σ H QB := h
theorem w_gtup {m : Nat} {t : TGs} {a : Addr} {xs : List V} {R : L2.St → Hp → Prop} (s : SqT K H a xs) (e : xs.length = m) (h : t xs σ H R) : gTup K m t (.ref a) σ H R := ⟨a, xs, rfl, s, e, h⟩
theorem w_gcons {t : TG} {u : TGs} {v : V} {r : List V} {R : L2.St → Hp → Prop} (h : t v σ H fun σ' H' => u r σ' H' R) : gCons t u (v :: r) σ H R := ⟨v, r, rfl, h⟩
theorem w_gnil {R : L2.St → Hp → Prop} (h : R σ H) : gNil [] σ H R := ⟨rfl, h⟩
end
end RG
/-! ### comprehensions that change nothing; slices; in -/
namespace RG
open PySem PySem.Spec PyProof.Rows L2
/-- behind i turns: all that stood stands, the list holds what the turns gave -/
def IvP (H : Hp) (l : List (List V)) (D : Addr) (i : Nat) (acc : List V) (H' : Hp) : Prop := Same H H' ∧ acc = (l.take i).flatten
section
variable {K : PySem.W.Frag} {σ : L2.St} {H : Hp} {te : TE} {Q : VK} {g : TG} {tt : TT} {vs : List Nat} {J : It} {n : Nat} {G : Hp → Prop} {Y : Nat → Hp → V → Hp → Prop}
theorem take_flat {l : List (List V)} {i : Nat} {x : List V} (h : l[i]? = some x) : (l.take (i + 1)).flatten = (l.take i).flatten ++ x := by
  rw [List.take_add_one, h]
  simp
theorem lc_pure (w : Walk J n G Y) (hn : n ≤ 50000) (l : List (List V)) (hl : l.length = n) (hG : ∀ H', Same H H' → G H')
    (hs : ∀ D i acc x H' H'', H D = none → i < n → acc.length ≤ i → H' D = some (.lst acc) → IvP H l D i acc H' → Y i H' x H'' → g x (wipe σ vs) H'' fun σ2 H2 => wipe σ2 vs = wipe σ vs ∧ tt σ2 H2 fun b H3 =>
      if b = true then te σ2 H3 fun y H4 => LcNx (IvP H l D) D i y H4 else LcSk (IvP H l D) D i H3)
    (hd : ∀ D H', H D = none → Same H H' → H' D = some (.lst l.flatten) → Q (.ref D) H') : LcGoal J g tt te vs σ H Q := by
  refine lc_go w hn (IvP H l) (fun D hD => ⟨Same.new hD, rfl⟩) (fun D i acc H' hD _ iv => hG H' iv.1) hs fun D acc H' hD hH' _ iv => hd D H' hD iv.1 ?_
  rw [hH', iv.2, List.take_of_length_le (by omega)]
theorem lcp_nx {l : List (List V)} {A : Addr} {i : Nat} {y : V} {acc : List V} {H' H4 : Hp} (hD : H A = none) (hi : i < 90000) (hl : acc.length ≤ i) (h : H' A = some (.lst acc)) (iv : IvP H l A i acc H') (s : Same H' H4) (e : l[i]? = some [y]) : LcNx (IvP H l A) A i y H4 :=
  lc_nx hi hl (s _ _ h) ⟨fun b o q => by
    rw [upd_ne (ne_of_none q hD)]
    exact s _ _ (iv.1 _ _ q), by rw [take_flat e, iv.2]⟩
theorem lcp_sk {l : List (List V)} {A : Addr} {i : Nat} {acc : List V} {H' H4 : Hp} (hl : acc.length ≤ i) (h : H' A = some (.lst acc)) (iv : IvP H l A i acc H') (s : Same H' H4) (e : l[i]? = some []) : LcSk (IvP H l A) A i H4 :=
  lc_sk hl (s _ _ h) ⟨iv.1.trans s, by rw [take_flat e, iv.2, List.append_nil]⟩
theorem flat_one {α : Type} (f : α → V) : ∀ l : List α, (l.map fun x => [f x]).flatten = l.map f
  | [] => rfl
  | x :: r => by
    simp only [List.map_cons, List.flatten_cons, flat_one f r]
    rfl
theorem flat_if {α : Type} (p : α → Bool) (f : α → V) : ∀ l : List α, (l.map fun x => if p x = true then [f x] else []).flatten = (l.filter p).map f
  | [] => rfl
  | x :: r => by
    simp only [List.map_cons, List.flatten_cons, flat_if p f r, List.filter_cons]
    split <;> rfl
theorem cutV_tail (x : V) (xs : List V) : cutV (x :: xs) (some 1) none = xs := by
  have h1 : HT.sIx (x :: xs).length 0 (some 1) = min 1 (x :: xs).length := HT.sIx_nat _ 0 1
  have h2 : min 1 (x :: xs).length = 1 := by
    rw [List.length_cons]
    omega
  unfold cutV
  rw [h1, h2, HT.sIx_none]
  simp
/-- t[1:] of a tuple that isn't empty -/
theorem w_sl1 {a : Addr} {x : V} {xs : List V} (s : SqT K H a (x :: xs)) (h : ∀ p, H p = none → Q (.ref p) (upd H p (.tup xs))) : rSlA K (.ref a) (some 1) none H Q := by
  refine ⟨a, _, rfl, s, fun z => ?_, fun _ p np => ?_⟩
  · have h1 : HT.sIx (x :: xs).length 0 (some 1) = min 1 (x :: xs).length := HT.sIx_nat _ 0 1
    rw [h1, List.length_cons] at z
    omega
  · rw [cutV_tail]
    exact h p np
theorem w_inT {x : V} {a : Addr} {xs : List V} (s : SqT K H a xs) (fx : flatV x = true) (fs : xs.all flatV = true) (h : Q (.bl (inV x xs)) H) : rIn K false x (.ref a) H Q := ⟨a, xs, rfl, .inr s, fx, fs, h⟩
theorem w_inL {x : V} {a : Addr} {xs : List V} (s : SqL K H a xs) (fx : flatV x = true) (fs : xs.all flatV = true) (h : Q (.bl (inV x xs)) H) : rIn K false x (.ref a) H Q := ⟨a, xs, rfl, .inl s, fx, fs, h⟩
theorem w_ninL {x : V} {a : Addr} {xs : List V} (s : SqL K H a xs) (fx : flatV x = true) (fs : xs.all flatV = true) (h : Q (.bl (!inV x xs)) H) : rIn K true x (.ref a) H Q := ⟨a, xs, rfl, .inl s, fx, fs, h⟩
theorem inV_two (z a b : Str) : inV (.str z) [.str a, .str b] = (decide (z = a) || decide (z = b)) := by
  have h1 : ∀ u : Str, (u == z) = decide (z = u) := fun u => by
    by_cases h : z = u
    · subst h
      simp
    · rw [decide_eq_false h]
      exact beq_eq_false_iff_ne.mpr fun q => h q.symm
  simp only [inV, List.any_cons, List.any_nil, eqV, h1, Bool.or_false]
theorem w_all {a : Addr} {bs : List Bool} (s : SqL K H a (bs.map V.bl)) (h : Q (.bl (bs.all id)) H) : rAll K [.ref a] H Q := ⟨a, bs, rfl, s, h⟩
theorem w_any {a : Addr} {bs : List Bool} (s : SqL K H a (bs.map V.bl)) (h : Q (.bl (bs.any id)) H) : rAny K [.ref a] H Q := ⟨a, bs, rfl, s, h⟩
theorem w_sum {a : Addr} {ns : List Int} (s : SqL K H a (ns.map V.int)) (h : Q (.int ns.sum) H) : rSum K [.ref a] H Q := ⟨a, ns, rfl, s, h⟩
theorem walk_zipT {a b : Addr} {xs ys : List V} {m : Nat} (hm : m = min xs.length ys.length) : Walk (RZ.ItzT K a b) m (fun H => SqT K H a xs ∧ SqT K H b ys) (YPair (fun i => xs[i]?) (fun i => ys[i]?)) := by
  subst hm
  refine ⟨fun i _ hi q => ?_, fun _ q => ⟨xs, ys, q.1, q.2, by omega⟩, fun i H v H' _ q y => ?_⟩
  · have h1 : i < xs.length := by omega
    have h2 : i < ys.length := by omega
    exact ⟨xs, ys, xs[i], ys[i], q.1, q.2, by simp [h1], by simp [h2]⟩
  · obtain ⟨T, x, z, h1, h2, h3, h4, h5⟩ := y
    exact ⟨T, x, z, h1, h2, h3, h4 xs q.1, h5 ys q.2⟩
theorem w_zipA {ta : TA} {R : It → Hp → Prop} (h : ta σ H fun vs H1 => ∃ a b xs ys, vs = [.ref a, .ref b] ∧ ((SqL K H1 a xs ∧ SqL K H1 b ys ∧ R (Itz K a b) H1) ∨ (SqT K H1 a xs ∧ SqT K H1 b ys ∧ R (RZ.ItzT K a b) H1))) : RZ.iZipA K ta σ H R := h
end
theorem shaped_mem {ds : List PyData} {d : PyData} (h : SeqAt.shaped (.tuple ds) = true) (hd : d ∈ ds) : SeqAt.shaped d = true := by
  have h1 : ∀ l : List PyData, PyData.canLayAll0 l = true → d ∈ l → d.canLay0 = true := by
    intro l
    induction l with
    | nil => intro _ h; cases h
    | cons x r ih =>
      intro h m
      simp only [PyData.canLayAll0, Bool.and_eq_true] at h
      rcases List.mem_cons.mp m with rfl | m
      · exact h.1
      · exact ih h.2 m
  have h2 : ∀ l : List PyData, d ∈ l → d.depth ≤ PyData.depthAll l := by
    intro l
    induction l with
    | nil => intro h; cases h
    | cons x r ih =>
      intro m
      simp only [PyData.depthAll]
      rcases List.mem_cons.mp m with rfl | m
      · omega
      · have := ih m
        omega
  have a := SeqAt.canLay_of_shaped h
  have b := SeqAt.depth_of_shaped h
  simp only [PyData.canLay0] at a
  simp only [PyData.depth] at b
  have c := h2 ds hd
  have e : decide (d.depth ≤ 64) = true := decide_eq_true (by omega)
  simp only [SeqAt.shaped, h1 ds a hd, e, Bool.and_self]
/-- a def without any promise -/
theorem Ok.bot {P : Program} {w : World} {K : PySem.W.Frag} {mg : Str → Option Value} {base : Heap} {x : Str} {st : Stmt} {ps : List Str} {k : Nat} (G : mg x = some (.ref (He.ga K x))) (F : FnAt K x st) (b : BindAll x st ps) : Ok P w K mg base k x ps (fun _ _ _ _ => False) := by
  obtain ⟨fd, F⟩ := F
  have e : fdAt K (He.ga K x) = some fd := by
    obtain ⟨oc, od, dV, kV, doc, pm, an, cdv, ct, osl, rfl, lk, _⟩ := F.ex
    unfold fdAt
    rw [lk]
  exact ⟨G, F.kp, fd, e, F.bindsA b, ⟨fun _ _ _ _ h => h.elim, fun _ _ _ _ _ _ _ _ _ _ _ _ _ h => h.elim⟩⟩
end RG
/-! ### data of a fit size -/
namespace RG
open PySem PySem.Spec PyProof.Rows L2
mutual
/-- no list or tuple within is longer than a thousand -/
def narrow : PyData → Bool
  | .tuple xs => decide (xs.length ≤ 1000) && narrowAll xs
  | .list xs => decide (xs.length ≤ 1000) && narrowAll xs
  | .none => true
  | .bool _ => true
  | .int _ => true
  | .str _ => true
  | .dict _ => true
def narrowAll : List PyData → Bool
  | [] => true
  | x :: xs => narrow x && narrowAll xs
end
theorem narrowAll_mem : ∀ {l : List PyData} {d : PyData}, narrowAll l = true → d ∈ l → narrow d = true
  | [], _, _, h => by cases h
  | x :: r, d, h, m => by
    simp only [narrowAll, Bool.and_eq_true] at h
    rcases List.mem_cons.mp m with rfl | m
    · exact h.1
    · exact narrowAll_mem h.2 m
def okD (d : PyData) : Bool := SeqAt.shaped d && narrow d
theorem okD_sh {d : PyData} (h : okD d = true) : SeqAt.shaped d = true := (Bool.and_eq_true_iff.mp h).1
theorem okD_mem {ds : List PyData} {d : PyData} (h : okD (.tuple ds) = true) (m : d ∈ ds) : okD d = true := by
  obtain ⟨a, b⟩ := Bool.and_eq_true_iff.mp h
  simp only [narrow, Bool.and_eq_true] at b
  exact Bool.and_eq_true_iff.mpr ⟨shaped_mem a m, narrowAll_mem b.2 m⟩
theorem okD_len {ds : List PyData} (h : okD (.tuple ds) = true) : ds.length ≤ 1000 := by
  obtain ⟨a, b⟩ := Bool.and_eq_true_iff.mp h
  simp only [narrow, Bool.and_eq_true, decide_eq_true_eq] at b
  exact b.1
theorem not_tup {d : PyData} (h : ¬ isTupD d = true) : isTupD d = false := by simpa using h
theorem is_tup {d : PyData} (h : isTupD d = true) : ∃ ds, d = .tuple ds := by
  cases d <;> first | exact ⟨_, rfl⟩ | cases h
theorem is_str {d : PyData} (h : isStrD d = true) : ∃ z, d = .str z := by
  cases d <;> first | exact ⟨_, rfl⟩ | cases h
end RG
/-! ### truths joined -/
namespace RG
open PySem PySem.Spec PyProof.Rows L2
/-- it tells b and leaves what stood -/
def EvB (te : TE) (σ : L2.St) (H : Hp) (b : Bool) : Prop := ∀ Q : VK, (∀ H', Same H H' → Q (.bl b) H') → te σ H Q
def EvT (tt : TT) (σ : L2.St) (H : Hp) (b : Bool) : Prop := ∀ Q : Bool → Hp → Prop, (∀ H', Same H H' → Q b H') → tt σ H Q
section
variable {σ : L2.St} {H : Hp} {ta tb te : TE} {tA tC' : TT} {a b : Bool}
theorem evb_use {Q : VK} (h : EvB te σ H b) (k : ∀ H', Same H H' → Q (.bl b) H') : te σ H Q := h Q k
theorem evt_use {Q : Bool → Hp → Prop} (h : EvT tA σ H b) (k : ∀ H', Same H H' → Q b H') : tA σ H Q := h Q k
theorem evb_and (h1 : EvB ta σ H a) (h2 : a = true → ∀ H', Same H H' → EvB tb σ H' b) : EvB (tAndV ta tb) σ H (a && b) := fun Q q => h1 _ fun H1 s1 => ⟨a, rfl, by
  cases a with
  | true => exact if_t rfl (h2 rfl H1 s1 Q fun H2 s2 => q H2 (s1.trans s2))
  | false => exact if_f rfl (q H1 s1)⟩
theorem evb_or (h1 : EvB ta σ H a) (h2 : a = false → ∀ H', Same H H' → EvB tb σ H' b) : EvB (tOrV ta tb) σ H (a || b) := fun Q q => h1 _ fun H1 s1 => ⟨a, rfl, by
  cases a with
  | true => exact if_t rfl (q H1 s1)
  | false => exact if_f rfl (h2 rfl H1 s1 Q fun H2 s2 => q H2 (s1.trans s2))⟩
theorem evb_not (h1 : EvB ta σ H a) : EvB (tNotV ta) σ H (!a) := fun Q q => h1 _ fun H1 s1 => ⟨a, rfl, q H1 s1⟩
theorem evt_B (h1 : EvB ta σ H a) : EvT (tB ta) σ H a := fun Q q => h1 _ fun H1 s1 => ⟨a, rfl, q H1 s1⟩
theorem evt_test (h1 : EvB ta σ H a) : EvT (tTest ta) σ H a := fun Q q => h1 _ fun H1 s1 => ⟨a, rfl, q H1 s1⟩
theorem evt_and (h1 : EvT tA σ H a) (h2 : a = true → ∀ H', Same H H' → EvT tC' σ H' b) : EvT (tAnd tA tC') σ H (a && b) := fun Q q => h1 _ fun H1 s1 => by
  cases a with
  | true => exact if_t rfl (h2 rfl H1 s1 Q fun H2 s2 => q H2 (s1.trans s2))
  | false => exact if_f rfl (q H1 s1)
theorem evt_or (h1 : EvT tA σ H a) (h2 : a = false → ∀ H', Same H H' → EvT tC' σ H' b) : EvT (tOr tA tC') σ H (a || b) := fun Q q => h1 _ fun H1 s1 => by
  cases a with
  | true => exact if_t rfl (q H1 s1)
  | false => exact if_f rfl (h2 rfl H1 s1 Q fun H2 s2 => q H2 (s1.trans s2))
theorem evt_not (h1 : EvT tA σ H a) : EvT (tNot tA) σ H (!a) := fun Q q => h1 _ fun H1 s1 => q H1 s1
end
end RG
/-! ### comprehensions of data -/
namespace RG
open PySem PySem.Spec PyProof.Rows L2
mutual
/-- a change of a list does not bear on data without lists -/
theorem dp_mut {K : PySem.W.Frag} {H : Hp} {p : Addr} {o : HO} {ys : List V} (hp : H p = some (.lst ys)) : ∀ {v : V} {d : PyData}, imm d = true → Dp K H v d → Dp K (upd H p o) v d
  | _, _, _, .non => .non
  | _, _, _, .bl b => .bl b
  | _, _, _, .int i => .int i
  | _, _, _, .str x => .str x
  | _, _, i, .lst h a => by simp [imm] at i
  | _, _, i, .tup h a => .tup (tup_mut hp h) (dpAll_mut hp (by simpa [imm] using i) a)
theorem dpAll_mut {K : PySem.W.Frag} {H : Hp} {p : Addr} {o : HO} {ys : List V} (hp : H p = some (.lst ys)) : ∀ {vs : List V} {ds : List PyData}, immAll ds = true → DpAll K H vs ds → DpAll K (upd H p o) vs ds
  | _, _, _, .nil => .nil
  | _, _, i, .cons a b => by
    simp [immAll] at i
    exact .cons (dp_mut hp i.1 a) (dpAll_mut hp i.2 b)
end
theorem immAll_app : ∀ {a b : List PyData}, immAll (a ++ b) = (immAll a && immAll b)
  | [], b => by simp [immAll]
  | x :: a, b => by
    simp only [List.cons_append, immAll, immAll_app (a := a), Bool.and_assoc]
theorem immAll_mem : ∀ {l : List PyData}, (∀ d ∈ l, imm d = true) → immAll l = true
  | [], _ => rfl
  | x :: l, h => by
    have h2 : immAll l = true := immAll_mem fun d hd => h d (List.mem_cons_of_mem _ hd)
    simp only [immAll, h x (by simp), h2, Bool.and_self]
theorem immAll_get : ∀ {l : List PyData} {d : PyData}, immAll l = true → d ∈ l → imm d = true
  | [], _, _, h => by cases h
  | x :: l, d, h, m => by
    simp only [immAll, Bool.and_eq_true] at h
    rcases List.mem_cons.mp m with rfl | m
    · exact h.1
    · exact immAll_get h.2 m
def IvD (K : PySem.W.Frag) (H : Hp) (l : List (List PyData)) (D : Addr) (i : Nat) (acc : List V) (H' : Hp) : Prop := Same H H' ∧ DpAll K H' acc (l.take i).flatten
section
variable {K : PySem.W.Frag} {σ : L2.St} {H : Hp} {te : TE} {Q : VK} {g : TG} {tt : TT} {vs : List Nat} {J : It} {n : Nat} {G : Hp → Prop} {Y : Nat → Hp → V → Hp → Prop}
theorem take_flatD {α : Type} {l : List (List α)} {i : Nat} {x : List α} (h : l[i]? = some x) : (l.take (i + 1)).flatten = (l.take i).flatten ++ x := by
  rw [List.take_add_one, h]
  simp
theorem immAll_take {l : List (List PyData)} (h : immAll l.flatten = true) (i : Nat) : immAll (l.take i).flatten = true := by
  have e : l.flatten = (l.take i).flatten ++ (l.drop i).flatten := by
    rw [← List.flatten_append, List.take_append_drop]
  rw [e, immAll_app, Bool.and_eq_true] at h
  exact h.1
theorem lc_data (w : Walk J n G Y) (hn : n ≤ 50000) (l : List (List PyData)) (hl : l.length = n) (hG : ∀ H', Same H H' → G H')
    (hs : ∀ D i acc x H' H'', H D = none → i < n → acc.length ≤ i → H' D = some (.lst acc) → IvD K H l D i acc H' → Y i H' x H'' → g x (wipe σ vs) H'' fun σ2 H2 => wipe σ2 vs = wipe σ vs ∧ tt σ2 H2 fun b H3 =>
      if b = true then te σ2 H3 fun y H4 => LcNx (IvD K H l D) D i y H4 else LcSk (IvD K H l D) D i H3)
    (hd : ∀ D acc H', H D = none → Same H H' → H' D = some (.lst acc) → DpAll K H' acc l.flatten → Q (.ref D) H') : LcGoal J g tt te vs σ H Q := by
  refine lc_go w hn (IvD K H l) (fun D hD => ⟨Same.new hD, .nil⟩) (fun D i acc H' hD _ iv => hG H' iv.1) hs fun D acc H' hD hH' _ iv => hd D acc H' hD iv.1 hH' ?_
  have h := iv.2
  rw [List.take_of_length_le (by omega)] at h
  exact h
theorem lcd_nx {l : List (List PyData)} {A : Addr} {i : Nat} {y : V} {d : PyData} {acc : List V} {H' H4 : Hp} (hD : H A = none) (hi : i < 90000) (hl : acc.length ≤ i) (h : H' A = some (.lst acc)) (iv : IvD K H l A i acc H') (s : Same H' H4) (hy : Dp K H4 y d) (im : immAll l.flatten = true) (e : l[i]? = some [d]) : LcNx (IvD K H l A) A i y H4 := by
  have hi1 := immAll_take im (i + 1)
  rw [take_flatD e] at hi1
  refine lc_nx hi hl (s _ _ h) ⟨fun b o q => ?_, ?_⟩
  · rw [upd_ne (ne_of_none q hD)]
    exact s _ _ (iv.1 _ _ q)
  · rw [take_flatD e]
    exact dpAll_mut (s _ _ h) hi1 (dpAll_app (dps_s s iv.2) (.cons hy .nil))
theorem lcd_sk {l : List (List PyData)} {A : Addr} {i : Nat} {acc : List V} {H' H4 : Hp} (hl : acc.length ≤ i) (h : H' A = some (.lst acc)) (iv : IvD K H l A i acc H') (s : Same H' H4) (e : l[i]? = some []) : LcSk (IvD K H l A) A i H4 :=
  lc_sk hl (s _ _ h) ⟨iv.1.trans s, by
    rw [take_flatD e, List.append_nil]
    exact dps_s s iv.2⟩
theorem flat_oneD {α β : Type} (f : α → β) : ∀ l : List α, (l.map fun x => [f x]).flatten = l.map f
  | [] => rfl
  | x :: r => by
    simp only [List.map_cons, List.flatten_cons, flat_oneD f r]
    rfl
theorem flat_ifD {α β : Type} (p : α → Bool) (f : α → β) : ∀ l : List α, (l.map fun x => if p x = true then [f x] else []).flatten = (l.filter p).map f
  | [] => rfl
  | x :: r => by
    simp only [List.map_cons, List.flatten_cons, flat_ifD p f r, List.filter_cons]
    split <;> rfl
/-- with dice: what the turns gave is some data that R tells of -/
def IvR (K : PySem.W.Frag) (a : Addr) (H : Hp) (R : Nat → List PyData → Prop) (D : Addr) (i : Nat) (acc : List V) (H' : Hp) : Prop := But a H H' ∧ D ≠ a ∧ ∃ ds, DpAll K H' acc ds ∧ immAll ds = true ∧ R i ds
theorem lc_dice {a : Addr} (w : Walk J n G Y) (hn : n ≤ 50000) (R : Nat → List PyData → Prop) (hd0 : Dice H a) (h0 : R 0 []) (hG : ∀ H', But a H H' → G H')
    (hs : ∀ D i acc x H' H'', H D = none → i < n → acc.length ≤ i → H' D = some (.lst acc) → IvR K a H R D i acc H' → Y i H' x H'' → g x (wipe σ vs) H'' fun σ2 H2 => wipe σ2 vs = wipe σ vs ∧ tt σ2 H2 fun b H3 =>
      if b = true then te σ2 H3 fun y H4 => LcNx (IvR K a H R D) D i y H4 else LcSk (IvR K a H R D) D i H3)
    (hd : ∀ D acc ds H', H D = none → But a H H' → D ≠ a → H' D = some (.lst acc) → DpAll K H' acc ds → immAll ds = true → R n ds → Q (.ref D) H') : LcGoal J g tt te vs σ H Q := by
  refine lc_go w hn (IvR K a H R) (fun D hD => ⟨But.of hd0 (Same.new hD), hd0.ne hD, [], .nil, rfl, h0⟩) (fun D i acc H' hD _ iv => hG H' iv.1) hs fun D acc H' hD hH' _ iv => ?_
  obtain ⟨b, nD, ds, h1, h2, h3⟩ := iv
  exact hd D acc ds H' hD b nD hH' h1 h2 h3
theorem lcr_nx {a : Addr} {R : Nat → List PyData → Prop} {A : Addr} {i : Nat} {y : V} {d : PyData} {ds : List PyData} {acc : List V} {H' H4 : Hp} (hD : H A = none) (hi : i < 90000) (hl : acc.length ≤ i) (h : H' A = some (.lst acc)) (b : But a H H') (nA : A ≠ a) (hds : DpAll K H' acc ds) (im : immAll ds = true)
    (s : But a H' H4) (hy : Dp K H4 y d) (imd : imm d = true) (r : R (i + 1) (ds ++ [d])) : LcNx (IvR K a H R A) A i y H4 := by
  have h4 := s.kp _ _ h nA
  have i2 : immAll (ds ++ [d]) = true := by
    rw [immAll_app, im]
    simp [immAll, imd]
  exact lc_nx hi hl h4 ⟨(b.trans s).mut hD nA, nA, ds ++ [d], dpAll_mut h4 i2 (dpAll_app (s.dpAll im hds) (.cons hy .nil)), i2, r⟩
theorem lcr_sk {a : Addr} {R : Nat → List PyData → Prop} {A : Addr} {i : Nat} {ds : List PyData} {acc : List V} {H' H4 : Hp} (hl : acc.length ≤ i) (h : H' A = some (.lst acc)) (b : But a H H') (nA : A ≠ a) (hds : DpAll K H' acc ds) (im : immAll ds = true)
    (s : But a H' H4) (r : R (i + 1) ds) : LcSk (IvR K a H R A) A i H4 := lc_sk hl (s.kp _ _ h nA) ⟨b.trans s, nA, ds, s.dpAll im hds, im, r⟩
end
end RG
namespace RG
open PySem PySem.Spec PyProof.Rows L2
theorem hu65 {k : Nat} {A : Around} (hr : Room k A) : A.units + 65 < cLine := by
  have := hr.un
  omega
end RG
/-! ### enumerate(t), t a tuple -/
namespace RG
open PySem PySem.Spec PyProof.Rows L2
set_option maxHeartbeats 1000000 in
theorem enum_new_tup (tp : Addr) (vals : Array Value) :
    Meets (Builtin.«enumerate.__new__» ⟨[.type "enumerate", .ref tp], []⟩) (fun _ R s => s.heap.IsTuple tp vals ∧
      R (.ok (.ret (.ref (s.heap.push { cls := .type "tuple_iterator", data := .fields #[.ref tp, .int 0 0] }).objs.size)))
        { s with heap := (s.heap.push { cls := .type "tuple_iterator", data := .fields #[.ref tp, .int 0 0] }).push { cls := .type "enumerate", data := .fields #[.none, .bool false, .ref s.heap.objs.size, rawInt 0, .none, .none] } }) :=
  .of_wp fun pg wd ar R s hh => by
    obtain ⟨hp, g, d, tk, os⟩ := s
    obtain ⟨ht, hR⟩ := hh
    have hsb := sub_enumerate
    have go : ∀ {A' : Around} {E : Value → Shared → Prop} {Q : Value → Shared → Prop}, Q (.ref hp.objs.size) ⟨hp.push { cls := .type "tuple_iterator", data := .fields #[.ref tp, .int 0 0] }, g, d, tk, os⟩ → wpAny (model pg wd) A' (pyIter (.ref tp)) Q E ⟨hp, g, d, tk, os⟩ :=
      fun k => wpAny_pyIter_tuple (s := ⟨hp, g, d, tk, os⟩) ht k
    wp_walk using go
    refine wpAny_stack_any fun st => wpAny_pure ?_
    split
    · rename_i c _ _ _ _ _
      cases (c == Value.type "enumerate")
      · wp_walk using go
        exact ⟨_, rfl, hR⟩
      · wp_walk using go
        exact ⟨_, rfl, hR⟩
    · wp_walk using go
      exact ⟨_, rfl, hR⟩
theorem enum_call_tup {pg : Program} {wd : World} {ar : Around} {E : Value → Shared → Prop} {s : Shared} {tp : Addr} {vals : Array Value} {Q : Value → Shared → Prop} (ht : s.heap.IsTuple tp vals)
    (hq : ∀ h', IsEnum h' (s.heap.objs.size + 1) s.heap.objs.size 0 .none → h'.IsTupleIter s.heap.objs.size tp 0 →
      (∀ b o, s.heap.get? b = some o → h'.get? b = some o) → Q (.ref (s.heap.objs.size + 1)) { s with heap := h' }) :
    wpAny (model pg wd) ar (call (.type "enumerate") [.ref tp]) Q E s := by
  refine callType_new F.called_enumerate (by decide) (F.typeCall_enumerate_1 _) (F.newCall_enumerate_1 _) (fun ob => F.args_object_init_2 ob _) F.entry_enumerate_new (enum_new_tup tp vals) ⟨ht, ?_⟩
  have sz1 : (s.heap.push { cls := .type "tuple_iterator", data := .fields #[.ref tp, .int 0 0] }).objs.size = s.heap.objs.size + 1 := Heap.size_push ..
  show _ ∧ _
  rw [sz1]
  have en : IsEnum ((s.heap.push { cls := .type "tuple_iterator", data := .fields #[.ref tp, .int 0 0] }).push { cls := .type "enumerate", data := .fields #[.none, .bool false, .ref s.heap.objs.size, rawInt 0, .none, .none] }) (s.heap.objs.size + 1) s.heap.objs.size 0 .none := by
    have z := Heap.get?_push_size (s.heap.push { cls := .type "tuple_iterator", data := .fields #[.ref tp, .int 0 0] }) (o := { cls := .type "enumerate", data := .fields #[.none, .bool false, .ref s.heap.objs.size, rawInt 0, .none, .none] }) rfl
    rw [sz1] at z
    exact z
  exact ⟨⟨_, en, rfl⟩, hq _ en ⟨_, Heap.get?_push_of_some _ (Heap.get?_push_size _ rfl), rfl, rfl⟩ fun b o x => Heap.get?_push_of_some _ (Heap.get?_push_of_some _ x)⟩
/-- the tuple at a, each item in a new pair with its place -/
def IteT (K : PySem.W.Frag) (a : Addr) : It where
  go := fun i H => ∃ (xs : List V) (x : V), SqT K H a xs ∧ xs[i]? = some x
  yld := fun i H v H' => ∃ T x, v = .ref T ∧ H T = none ∧ H' = upd H T (.tup [.int (i : Nat), x]) ∧ ∀ xs, SqT K H a xs → xs[i]? = some x
  stop := fun i H => ∃ xs : List V, SqT K H a xs ∧ xs.length = i
theorem isTuple_of {h : Heap} {a : Addr} {its : Array Value} (p : IsTup h a its) : h.IsTuple a its := by
  obtain ⟨o, h1, h2, n, h3⟩ := p
  exact ⟨o, h1, h2, n, h3⟩
theorem turn_enumT {P : Program} {w : World} {K : PySem.W.Frag} {elts : List Expr} {kk : Nat} {tpos : Pos} (a en it : Addr) :
    Turn P w K (.Tuple elts kk tpos) (IteT K a) [en, it] en (fun i h => (∃ old, IsEnum h en it ((i : Nat) : Int) old) ∧ h.IsTupleIter it a i ∧ en ≠ it) where
  mem := by simp
  obj := fun i h st b hb => by
    obtain ⟨⟨old, h1⟩, ⟨o, ho, _, hd⟩, _⟩ := st
    rcases (by simpa using hb : b = en ∨ b = it) with z | z
    · rw [z]
      exact ⟨_, h1, fun v q => nomatch q⟩
    · rw [z]
      exact ⟨o, ho, fun v q => by rw [hd] at q; cases q⟩
  keep := fun i h h' st k => by
    obtain ⟨⟨old, h1⟩, h2, h3⟩ := st
    exact ⟨⟨old, k en (by simp) _ h1⟩, h2.at fun o q => k it (by simp) o q, h3⟩
  item := by
    intro X eP ew eK hcalm i pins s σ H E I fpk st hgo
    subst eP ew eK
    obtain ⟨⟨old, h1⟩, h2, hne⟩ := st
    obtain ⟨xs, x, hq, hx⟩ := hgo
    obtain ⟨its, rv, p, hz⟩ := I.tuple hq
    obtain ⟨u, hu, ru⟩ := rv.get hx
    have l1 : en < s.heap.objs.size := Heap.lt_size h1
    have l2 : it < s.heap.objs.size := by
      obtain ⟨_, q, _⟩ := h2
      exact Heap.lt_size q
    have pt := isTuple_of p
    have nai : a ≠ it := fun z => by
      obtain ⟨o1, q1, q2, _⟩ := h2
      obtain ⟨o2, r1, r2, _⟩ := pt
      rw [z, q1] at r1
      cases r1
      rw [q2] at r2
      exact absurd r2 (by decide)
    have nae : a ≠ en := fun z => by
      obtain ⟨o2, r1, r2, _⟩ := pt
      rw [z, h1] at r1
      cases r1
      exact absurd (show Value.type "enumerate" = Value.type "tuple" from r2) (by decide)
    have dr := Draws.tuple (prog := X.prog) (w := X.w) (A := X.A.in1) (show X.A.in1.handled = none from I.ok.hd hcalm) it a nai its.toArray
    have hlen : i < its.toArray.size := by
      have h3 := (List.getElem?_eq_some_iff.mp hu).1
      simpa using h3
    refine wpAny_pyNext_enum_itemD dr h1 ⟨h2, pt⟩ hlen hne (by simp; exact ⟨hne, nae.symm⟩) fun y h' tk py ho st' hT hsz hk => ?_
    have ey : y = u := by
      have e2 : its.toArray[i]? = some u := by simpa using hu
      exact Option.some.inj (py.symm.trans e2)
    subst ey
    refine ⟨_, rfl, wpAny_letOwnedTupleGo_enum (s := { s with heap := h', toks := tk + 1 }) ho fun h'' he' sb => ?_⟩
    have hT2 : h''.get? s.heap.objs.size = some { cls := .type "tuple", data := .seq #[.int i tk, y] } := (sb.2 _ (Nat.ne_of_gt l1)).trans hT
    have nw : ObjOk X.prog X.w (upd H s.heap.objs.size (.tup [.int (i : Nat), x])) h'' s.heap.objs.size (.tup [.int (i : Nat), x]) :=
      ⟨by show 2 ≤ sizeLine; decide, [.int i tk, y], .cons ⟨_, rfl⟩ (.cons ru .nil), ⟨_, hT2, rfl, _, rfl⟩⟩
    have J1 : Inv X pins σ (upd H s.heap.objs.size (.tup [.int (i : Nat), x])) { s with heap := h'', toks := tk + 1 } :=
      I.turnedNew (ch := [en, it]) (fun b ob hb q => (sb.2 b (fun z => hb (by simp [z]))).trans (hk b ob (fun z => hb (by simp [z])) (fun z => hb (by simp [z])) q)) fpk (Nat.le_refl _) nw
    refine ⟨.ref s.heap.objs.size, _, J1, rfl, ⟨_, x, rfl, I.hok.fresh (Nat.le_refl _), rfl, fun ys hy => by rw [I.tuple_inj hy hq]; exact hx⟩, ⟨⟨y, ?_⟩, st'.1.at fun o q => (sb.2 it (Ne.symm hne)).trans q, hne⟩, fun b hb => ?_⟩
    · have e1 : ((i + 1 : Nat) : Int) = (i : Int) + 1 := by omega
      rw [e1]
      exact he'
    · have hb' : b < s.heap.objs.size := by
        rcases (by simpa using hb : b = en ∨ b = it) with z | z
        · rw [z]
          exact l1
        · rw [z]
          exact l2
      rw [upd_ne (Nat.ne_of_lt hb')]
      exact (fpk b hb).1
  done := by
    intro X eP ew eK hcalm i pins s σ H E I fpk st hst
    subst eP ew eK
    obtain ⟨⟨old, h1⟩, h2, hne⟩ := st
    obtain ⟨xs, hq, hx⟩ := hst
    obtain ⟨its, rv, p, hz⟩ := I.tuple hq
    obtain ⟨f0, f1, f2, f3, f4, f5⟩ := fpk it (by simp)
    have hlen := rv.length
    have pt := isTuple_of p
    have nai : a ≠ it := fun z => by
      obtain ⟨o1, q1, q2, _⟩ := h2
      obtain ⟨o2, r1, r2, _⟩ := pt
      rw [z, q1] at r1
      cases r1
      rw [q2] at r2
      exact absurd r2 (by decide)
    have dr := Draws.tuple (prog := X.prog) (w := X.w) (A := X.A.in1) (show X.A.in1.handled = none from I.ok.hd hcalm) it a nai its.toArray
    have ei : i = its.toArray.size := by
      simp
      omega
    rw [ei] at h2
    exact wpAny_pyNext_enum_endD dr h1 ⟨h2, pt⟩ fun h' eb => ⟨rfl, I.turned (t' := s.toks) (fun b o hb q => eb b o hb q) f0 f1 f3 f4 f5⟩
  self := fun A i s Q E st h => by
    obtain ⟨⟨_, h1⟩, _⟩ := st
    exact wpAny_pyIter_enum h1 h
def iEnumT (K : PySem.W.Frag) (ta : TA) : TI := fun σ H R => ta σ H fun vs H1 => ∃ a xs, vs = [.ref a] ∧ SqT K H1 a xs ∧ R (IteT K a) H1
theorem pi_enumT {X : Cx} {e : Expr} {ta : TA} {p pos tpos : Pos} {elts : List Expr} {kk : Nat} (hg : Gl X "enumerate") (hm : X.mg "enumerate" = none) (ha : PA X [e] ta) (hs : starEach [e] X.env = [(false, eval e X.env)] := by rfl) :
    PI X (.Tuple elts kk tpos) (.Call (.Name "enumerate" p) [e] [] pos) (iEnumT X.K ta) := by
  refine ⟨fun pins s σ H R I hh => ?_⟩
  refine Call_ (ld_blt I hg hm boot_enumerate (PyProof.Rows.callWith_type1 (thn (ha.run pos pins s σ H _ I hh) fun us s1 ⟨vs, H1, I1, r1, q1⟩ => ?_) hs rfl))
  obtain ⟨a, xs, ex, hq, q⟩ := q1
  subst ex
  cases r1 with
  | cons r rr =>
    cases rr
    cases r
    obtain ⟨its, rv, p', hz⟩ := I1.tuple hq
    refine enum_call_tup (isTuple_of p') fun h' he hit hk => wpAny_pyIter_enum he ?_
    have I2 : Inv X pins σ H1 { s1 with heap := h' } := I1.kept (t' := s1.toks) hk
    refine ⟨s1.heap.objs.size + 1, [s1.heap.objs.size + 1, s1.heap.objs.size], _, _, H1, rfl, I2, turn_enumT a _ _, ⟨⟨.none, he⟩, hit, Nat.succ_ne_self _⟩, fun b hb => ?_, q⟩
    have hle : s1.heap.objs.size ≤ b := by
      rcases (by simpa using hb : b = s1.heap.objs.size + 1 ∨ b = s1.heap.objs.size) with z | z
      · rw [z]
        omega
      · rw [z]
        exact Nat.le_refl _
    exact I1.fpOk hle (I1.hok.fresh hle)
theorem walk_enumT {K : PySem.W.Frag} {a : Addr} {xs : List V} : Walk (IteT K a) xs.length (fun H => SqT K H a xs) (YPair (fun i => some (.int (i : Nat))) (fun i => xs[i]?)) := by
  refine ⟨fun i _ hi q => ⟨xs, xs[i], q, by simp [hi]⟩, fun _ q => ⟨xs, q, rfl⟩, fun i H v H' _ q y => ?_⟩
  obtain ⟨T, x, h1, h2, h3, h4⟩ := y
  exact ⟨T, .int (i : Nat), x, h1, h2, h3, rfl, h4 xs q⟩
theorem w_enumT {K : PySem.W.Frag} {σ : L2.St} {H : Hp} {ta : TA} {R : It → Hp → Prop} (h : ta σ H fun vs H1 => ∃ a xs, vs = [.ref a] ∧ SqT K H1 a xs ∧ R (IteT K a) H1) : iEnumT K ta σ H R := h
end RG
/-! ### slices and sums of tuples that are data -/
namespace RG
open PySem PySem.Spec PyProof.Rows L2
section
variable {K : PySem.W.Frag} {H : Hp} {Q : VK}
theorem dpAll_take : ∀ {vs : List V} {ds : List PyData} (n : Nat), DpAll K H vs ds → DpAll K H (vs.take n) (ds.take n)
  | _, _, 0, _ => by simpa using (DpAll.nil : DpAll K H [] [])
  | _, _, _ + 1, .nil => .nil
  | _, _, n + 1, .cons a b => .cons a (dpAll_take n b)
theorem dpAll_drop : ∀ {vs : List V} {ds : List PyData} (n : Nat), DpAll K H vs ds → DpAll K H (vs.drop n) (ds.drop n)
  | _, _, 0, h => h
  | _, _, _ + 1, .nil => .nil
  | _, _, n + 1, .cons _ b => dpAll_drop n b
/-- t[k:] -/
theorem w_slFrom {v : V} {ds : List PyData} {k : Nat} (hd : Dp K H v (.tuple ds)) (h : ∀ u H', Same H H' → Dp K H' u (.tuple (ds.drop k)) → Q u H') : rSlA K v (some (k : Nat)) none H Q := by
  obtain ⟨a, xs, rfl, hs, hx⟩ := dp_tuple hd
  have hl := dpAll_len hx
  have e1 : HT.sIx xs.length 0 (some ((k : Nat) : Int)) = min k xs.length := HT.sIx_nat _ 0 k
  have e2 : HT.sIx xs.length xs.length none = xs.length := HT.sIx_none _ _
  refine ⟨a, xs, rfl, hs, fun z => ?_, fun _ p np => ?_⟩
  · rw [e1] at z
    refine h _ H (Same.refl _) (.tup hs ?_)
    rcases Nat.eq_zero_or_pos k with k0 | k0
    · subst k0
      exact hx
    · have : xs = [] := List.eq_nil_of_length_eq_zero (by omega)
      subst this
      cases hx
      simpa using (DpAll.nil : DpAll K H [] [])
  · refine h _ _ (Same.new np) (.tup (tupOf upd_same) ?_)
    have e3 : cutV xs (some ((k : Nat) : Int)) none = xs.drop k := by
      unfold cutV
      rw [e1, e2]
      rcases Nat.le_total k xs.length with hk | hk
      · rw [Nat.min_eq_left hk]
        exact List.take_of_length_le (by simp)
      · rw [Nat.min_eq_right hk, List.drop_of_length_le hk, List.drop_of_length_le (Nat.le_refl _)]
        simp
    rw [e3]
    exact dps_s (Same.new np) (dpAll_drop k hx)
/-- t[:k] -/
theorem w_slTo {v : V} {ds : List PyData} {k : Nat} (hd : Dp K H v (.tuple ds)) (h : ∀ u H', Same H H' → Dp K H' u (.tuple (ds.take k)) → Q u H') : rSlA K v none (some (k : Nat)) H Q := by
  obtain ⟨a, xs, rfl, hs, hx⟩ := dp_tuple hd
  have hl := dpAll_len hx
  have e1 : HT.sIx xs.length 0 none = 0 := HT.sIx_none _ _
  have e2 : HT.sIx xs.length xs.length (some ((k : Nat) : Int)) = min k xs.length := HT.sIx_nat _ _ k
  refine ⟨a, xs, rfl, hs, fun z => ?_, fun _ p np => ?_⟩
  · rw [e2] at z
    refine h _ H (Same.refl _) (.tup hs ?_)
    rw [List.take_of_length_le (by omega)]
    exact hx
  · refine h _ _ (Same.new np) (.tup (tupOf upd_same) ?_)
    have e3 : cutV xs none (some ((k : Nat) : Int)) = xs.take k := by
      unfold cutV
      rw [e1, e2]
      show xs.take (min k xs.length - 0) = xs.take k
      rw [Nat.sub_zero, List.take_eq_take_iff]
      omega
    rw [e3]
    exact dps_s (Same.new np) (dpAll_take k hx)
/-- t + u -/
theorem w_catD {x y : V} {ds es : List PyData} (hx : Dp K H x (.tuple ds)) (hy : Dp K H y (.tuple es)) (z : ds.length + es.length ≤ 100000) (h : ∀ u H', Same H H' → Dp K H' u (.tuple (ds ++ es)) → Q u H') : rCatA K x y H Q := by
  obtain ⟨a, xs, rfl, ha, hxs⟩ := dp_tuple hx
  obtain ⟨b, ys, rfl, hb, hys⟩ := dp_tuple hy
  have l1 := dpAll_len hxs
  have l2 := dpAll_len hys
  refine ⟨a, b, xs, ys, rfl, rfl, ha, hb, sz (by omega), fun e => ?_, fun _ e => ?_, fun _ _ p np => ?_⟩
  · subst e
    cases hxs
    exact h _ H (Same.refl _) hy
  · subst e
    cases hys
    rw [List.append_nil] at h
    exact h _ H (Same.refl _) hx
  · exact h _ _ (Same.new np) (.tup (tupOf upd_same) (dps_s (Same.new np) (dpAll_app hxs hys)))
/-- xs[:k] of a list -/
theorem w_slLTo {a : Addr} {xs : List V} {k : Nat} (s : SqL K H a xs) (h : ∀ p, H p = none → Q (.ref p) (upd H p (.lst (xs.take k)))) : rSlL K (.ref a) none (some (k : Nat)) H Q := by
  refine ⟨a, xs, rfl, s, fun p np => ?_⟩
  have e1 : HT.sIx xs.length 0 none = 0 := HT.sIx_none _ _
  have e2 : HT.sIx xs.length xs.length (some ((k : Nat) : Int)) = min k xs.length := HT.sIx_nat _ _ k
  have e3 : cutV xs none (some ((k : Nat) : Int)) = xs.take k := by
    unfold cutV
    rw [e1, e2]
    show xs.take (min k xs.length - 0) = xs.take k
    rw [Nat.sub_zero, List.take_eq_take_iff]
    omega
  rw [e3]
  exact h p np
end
theorem rel_lookup {env : Env} {x : Str} : ∀ {ns : List (Str × NameKind)}, ns.lookup x = some .cell ∨ ns.lookup x = some .free → (ns.map fun (n, k) => if (k == NameKind.free && env.scope.kind == .function && env.kindOf n == some .cell) then (n, NameKind.cell) else (n, k)).lookup x = some .cell ∨ (ns.map fun (n, k) => if (k == NameKind.free && env.scope.kind == .function && env.kindOf n == some .cell) then (n, NameKind.cell) else (n, k)).lookup x = some .free
  | [], h => by simp at h
  | (n, k) :: r, h => by
    have ih := @rel_lookup env x r
    rw [List.map_cons]
    cases hx : x == n with
    | true =>
      simp only [List.lookup_cons, hx] at h
      dsimp only
      split
      · left
        simp only [List.lookup_cons, hx]
      · simp only [List.lookup_cons, hx]
        exact h
    | false =>
      simp only [List.lookup_cons, hx] at h
      dsimp only
      split <;> simp only [List.lookup_cons, hx] <;> exact ih h
/-- a block in a block -/
theorem blkOk_in {N : List Str} {sc scope : Scope} {own : List (Str × Nat)} {cl : List (Str × Addr)} {C : Addr} {env : Env} (h : blkC N sc scope own = true) : BlkOk N (compEnvC sc cl C env).scope scope own := by
  have k := blkOk_by h
  exact ⟨k.kind, k.uniq, k.ix, fun y hy e => rel_lookup (k.free y hy e), k.own⟩

end RG

namespace RG
open PySem PySem.Spec PyProof.Rows L2
theorem back_adjust (n : Nat) : Builtin.Slice.sliceAdjust none none (-1) (n : Int) = ((n : Int) - 1, -1) := rfl
theorem back_places (n : Nat) : Builtin.Slice.slicePlaces ((n : Int) - 1) (-1) (-1) = n := by
  unfold Builtin.Slice.slicePlaces
  rw [if_neg (by decide)]
  split
  · have : ((n : Int) - 1 - -1 - 1) / (- -1) = (n : Int) - 1 := by
      rw [show (- -1 : Int) = 1 from rfl, Int.ediv_one]
      omega
    omega
  · omega
theorem fm_congr {α β : Type} {f g : α → Option β} : ∀ {l : List α}, (∀ m ∈ l, f m = g m) → l.filterMap f = l.filterMap g
  | [], _ => rfl
  | a :: l, h => by
    rw [List.filterMap_cons, List.filterMap_cons, h a (by simp), fm_congr fun m hm => h m (by simp [hm])]
theorem back_pick (xs : Array Value) : ((List.range xs.size).filterMap fun (m : Nat) => xs[((xs.size : Int) - 1 + (m : Int) * (-1)).toNat]?).toArray = xs.toList.reverse.toArray := by
  have e : ∀ m ∈ List.range xs.size, xs[((xs.size : Int) - 1 + (m : Int) * (-1)).toNat]? = xs.toList.reverse[m]? := by
    intro m hm
    have hm := List.mem_range.mp hm
    rw [List.getElem?_reverse (by simpa using hm), show ((xs.size : Int) - 1 + (m : Int) * (-1)).toNat = xs.size - 1 - m by omega]
    simp
  rw [fm_congr e]
  congr 1
  have : ∀ l : List Value, (List.range l.length).filterMap (fun m => l[m]?) = l := by
    intro l
    induction l with
    | nil => rfl
    | cons a l ih =>
      rw [List.length_cons, List.range_succ_eq_map, List.filterMap_cons]
      simp only [List.getElem?_cons_zero, List.filterMap_map]
      congr 1
  have h := this xs.toList.reverse
  rw [List.length_reverse, Array.length_toList] at h
  exact h
section
variable {prog : Program} {w : World} {A : Around} {E : Value → Shared → Prop} {s : Shared}
open HT in
theorem back_applied {sl : Addr} {vl vu vs : Value} {n : Nat} {Q : Int × Int × Nat → Shared → Prop} (hs : s.heap.IsSliceOf sl vl vu vs) (pl : IsPart vl none) (pu : IsPart vu none) (ps : IsPart vs (some (-1)))
    (h : Q ((n : Int) - 1, -1, n) s) : wpAny (model prog w) A (Builtin.Slice.sliceApplied (.ref sl) (pure (n : Int))) Q E s := by
  obtain ⟨os, hoo, hcc, hdd⟩ := id hs
  unfold Builtin.Slice.sliceApplied Builtin.Slice.sliceFields
  refine wpAny_bind (wpAny_bind (wpAny_field hoo hdd (x := vl) rfl (wpAny_bind (wpAny_field hoo hdd (x := vu) rfl (wpAny_bind (wpAny_field hoo hdd (x := vs) rfl (wpAny_pure ?_)))))))
  refine wpAny_bind (slicePart_ ps ?_)
  show wpAny _ _ (if ((-1 : Int) == 0) = true then _ else _) _ _ s
  rw [if_neg (by decide)]
  refine wpAny_bind (slicePart_ pl (wpAny_bind (slicePart_ pu (wpAny_bind (wpAny_pure ?_)))))
  show wpAny _ _ (pure ((n : Int) - 1, (-1 : Int), Builtin.Slice.slicePlaces ((n : Int) - 1) (-1) (-1))) _ _ s
  rw [back_places]
  exact wpAny_pure h
open HT in
theorem back_tuple {t sl : Addr} {items : Array Value} {vl vu vs : Value} {Q : Value → Shared → Prop} (htp : IsTup s.heap t items) (hs : s.heap.IsSliceOf sl vl vu vs) (pl : IsPart vl none) (pu : IsPart vu none) (ps : IsPart vs (some (-1)))
    (h : Q (.ref s.heap.objs.size) { s with heap := s.heap.push { cls := .type "tuple", data := .seq items.toList.reverse.toArray } })
    (hle : items.size ≤ sizeLine) : wpAny (model prog w) A (getItem (.ref t) (.ref sl)) Q E s := by
  have hnew : sizeOk (.seq items.toList.reverse.toArray) := by
    show items.toList.reverse.toArray.size ≤ sizeLine
    rw [List.size_toArray, List.length_reverse, Array.length_toList]
    exact hle
  obtain ⟨os, hoo, hcc, hdd⟩ := id hs
  have hTy : s.TypeIs (.ref sl) "slice" := ⟨os, hoo, hcc⟩
  unfold getItem
  try with_reducible refine wpAny_holding ?_
  first | refine wpAny_bind (wpAny_pure ?_) | skip
  refine wpAny_bind (wpAny_sequenceKey htp.typeIs (by decide) ?_)
  refine wpAny_bind (wpAny_callSpecial?_slot (name := Str.ofString "__getitem__") htp.typeIs PyProof.Rows.slot_tuple_getitem (wpAny_call_entry PyProof.Rows.slot_tuple_getitem htp.typeIs entry_tuple_getitem ?_ (args_tuple_getitem _ _)))
  show wpAny _ _ (Builtin.Tuple.tupleItemsOf (.ref t) >>= _) _ _ s
  refine wpAny_bind (tupleItemsOf_ htp ?_)
  refine wpAny_bind (wpAny_typeOf hTy ?_)
  rw [if_pos (by decide)]
  refine wpAny_bind (back_applied hs pl pu ps ?_)
  have hno : ¬ ((((items.size : Int) - 1) == 0 && (-1 : Int) == 1 && items.size == items.size) = true) := by simp
  show wpAny _ _ (if (((items.size : Int) - 1) == 0 && (-1 : Int) == 1 && items.size == items.size) = true then _ else _) _ _ s
  rw [if_neg hno, back_pick]
  first
    | exact wpAny_bind (m := Builtin.Tuple.tupleExact _) (wpAny_newObj_type (wpAny_pure ⟨_, rfl, wpAny_pure h⟩) hnew)
    | exact wpAny_bind (m := Builtin.Tuple.tupleExact _) (wpAny_newObj_type (wpAny_bind (wpAny_pure (wpAny_pure ⟨_, rfl, wpAny_pure h⟩))) hnew)
    | exact wpAny_bind (wpAny_bind (m := Builtin.Tuple.tupleExact _) (wpAny_newObj_type (wpAny_pure (wpAny_pure ⟨_, rfl, wpAny_pure h⟩)) hnew))
    | exact wpAny_bind (wpAny_bind (m := Builtin.Tuple.tupleExact _) (wpAny_newObj_type (wpAny_pure ⟨_, rfl, wpAny_pure h⟩) hnew))
end
/-- t[::-1], t a tuple -/
def tBackT (K : PySem.W.Frag) (te : TE) : TE := fun σ H Q => te σ H fun x H1 => ∃ a xs, x = .ref a ∧ SqT K H1 a xs ∧ ∀ p, H1 p = none → Q (.ref p) (upd H1 p (.tup xs.reverse))
section
variable {X : Cx}
theorem pe_backT {e : Expr} {te : TE} {k : Nat} {p1 p2 p3 pos : Pos} (he : PE X e te) : PE X (.Subscript e (.Slice none none (some (.UnaryOp .USub (.Constant (.int 1) k p1) p2)) p3) pos) (tBackT X.K te) := by
  refine ⟨fun pn s σ H Q I h => ?_⟩
  refine Subscript_ (thn (he.run pn s σ H _ I h) fun v z1 ⟨x, H1, J1, rv, qv⟩ => ?_)
  obtain ⟨a, xs, ex, hx, q⟩ := qv
  subst ex
  cases rv
  have hpm : PO X (some (.UnaryOp .USub (.Constant (.int 1) k p1) p2)) (tPart (tUn (rU fun i => .int (-i)) (tC (.int 1)))) := po_some (pe_un un_neg pe_int)
  refine wpAny_Slice (thn (po_none.run pn z1 σ H1 (fun o H2 => o = none ∧ H2 = H1) J1 ⟨rfl, rfl⟩) fun vl z2 ⟨l, H2, J2, pl, el, e2⟩ => ?_)
  subst el e2
  refine thn (po_none.run pn z2 σ H2 (fun o H3 => o = none ∧ H3 = H2) J2 ⟨rfl, rfl⟩) fun vu z3 ⟨u, H3, J3, pu, eu, e3⟩ => ?_
  subst eu e3
  refine thn (hpm.run pn z3 σ H3 (fun o H4 => o = some (-1) ∧ H4 = H3) J3 ⟨1, rfl, -1, rfl, rfl, rfl⟩) fun vs z4 ⟨o, H4, J4, ps, eo, e4⟩ => ?_
  subst eo e4
  have J5 : Inv X pn σ H4 { z4 with heap := z4.heap.push { cls := .type "slice", data := .fields #[vl, vu, vs] } } := J4.kept (t' := z4.toks) fun b ob q => Heap.get?_push_of_some _ q
  obtain ⟨its, r, htp, hz⟩ := J5.tuple hx
  have hlen := r.length
  show wpAny (model X.prog X.w) X.A (subscriptTail e (.Slice none none (some (.UnaryOp .USub (.Constant (.int 1) k p1) p2)) p3) (.ref a) (.ref z4.heap.objs.size)) (EP X pn σ Q) X.xe { z4 with heap := z4.heap.push { cls := .type "slice", data := .fields #[vl, vu, vs] } }
  refine tail_any (ops := [.ref a, .ref z4.heap.objs.size]) htp.typeIs PyProof.Rows.slot_tuple_getitem.lookup ?_ (by with_unfolding_all rfl)
  refine back_tuple htp (Heap.IsSliceOf.new _ vl vu vs) pl pu ps ?_ (by rw [List.size_toArray]; omega)
  refine ⟨.ref _, _, J5.laid (t' := z4.toks) (o := .tup xs.reverse) (fun b ob q => Heap.get?_push_of_some _ q) (Nat.le_refl _) ?_, rfl, q _ (J5.hok.fresh (Nat.le_refl _))⟩
  exact ⟨by rw [List.length_reverse]; exact hz, _, r.reverse, IsTup.new _ _⟩
end
end RG

namespace RG
open PySem PySem.Spec PyProof.Rows L2
theorem w_par3 {σ : L2.St} {H : Hp} {D : Ends} {i j l : Nat} {ta : TA} (h : ta σ H fun vs H1 => ∃ u v w, vs = [u, v, w] ∧ D.nx (((σ.set i (some u)).set j (some v)).set l (some w)) H1) : tPar3 i j l ta D σ H := h
theorem w_back {K : PySem.W.Frag} {σ : L2.St} {H : Hp} {Q : VK} {te : TE} (h : te σ H fun x H1 => ∃ a xs, x = .ref a ∧ SqT K H1 a xs ∧ ∀ p, H1 p = none → Q (.ref p) (upd H1 p (.tup xs.reverse))) : tBackT K te σ H Q := h
end RG
namespace RG
open PySem PySem.Spec PyProof.Rows L2
theorem w_cat {H : Hp} {Q : VK} {a b : Addr} {xs ys : List V} (ha : H a = some (.lst xs)) (hb : H b = some (.lst ys)) (z : xs.length + ys.length ≤ 100000) (h : ∀ p, H p = none → Q (.ref p) (upd H p (.lst (xs ++ ys)))) : rCat (.ref a) (.ref b) H Q := ⟨a, b, xs, ys, rfl, rfl, ha, hb, sz z, h⟩
theorem tyL {K : PySem.W.Frag} {H : Hp} {p : Addr} {xs : List V} (h : H p = some (.lst xs)) : tyV K "list" (.ref p) H := .inl ⟨rfl, _, lstOf h⟩
theorem w_catT {K : PySem.W.Frag} {H : Hp} {Q : VK} {a b : Addr} {x y : V} {xs ys : List V} (ha : SqT K H a (x :: xs)) (hb : SqT K H b (y :: ys)) (z : (x :: xs).length + (y :: ys).length ≤ 100000) (h : ∀ p, H p = none → Q (.ref p) (upd H p (.tup (x :: xs ++ y :: ys)))) : rCatT K (.ref a) (.ref b) H Q := ⟨a, b, _, _, rfl, rfl, ha, hb, by simp, sz z, fun e => (by cases e), fun _ => h⟩
end RG
namespace RG
open PySem PySem.Spec PyProof.Rows L2
section
variable {K : PySem.W.Frag} {H : Hp} {Q : VK}
/-- a new list, a new tuple: what stood stands -/
theorem w_newL {xs : List V} (hl : xs.length ≤ 100000) (h : ∀ p H2, Same H H2 → H p = none → H2 p = some (.lst xs) → Q (.ref p) H2) : NewL xs H Q := ⟨sz hl, fun p np => h p _ (Same.new np) np upd_same⟩
theorem w_newT {xs : List V} (hl : xs.length ≤ 100000) (h : ∀ p H2, Same H H2 → H p = none → H2 p = some (.tup xs) → Q (.ref p) H2) : NewT xs H Q := ⟨sz hl, fun p np => h p _ (Same.new np) np upd_same⟩
theorem w_catN {a b : Addr} {xs ys : List V} (ha : H a = some (.lst xs)) (hb : H b = some (.lst ys)) (z : xs.length + ys.length ≤ 100000) (h : ∀ p H2, Same H H2 → H p = none → H2 p = some (.lst (xs ++ ys)) → Q (.ref p) H2) : rCat (.ref a) (.ref b) H Q :=
  w_cat ha hb z fun p np => h p _ (Same.new np) np upd_same
/-- an item put to a list that is newer than H0 -/
theorem w_appN {H0 : Hp} {a : Addr} {xs : List V} {v : V} (s : Same H0 H) (n : H0 a = none) (ha : H a = some (.lst xs)) (z : xs.length < 100000) (h : ∀ H2, Same H0 H2 → H2 a = some (.lst (xs ++ [v])) → (∀ b, b ≠ a → H2 b = H b) → Q .non H2) : rAppend (.ref a) [v] H Q :=
  w_app ha z (h _ (fun b o e => by rw [upd_ne (ne_of_none e n)]; exact s b o e) upd_same fun b nb => upd_ne nb)
end
end RG
namespace RG
open PySem PySem.Spec PyProof.Rows L2
theorem depthAll_le {m : Nat} : ∀ {ds : List PyData}, (∀ d ∈ ds, d.depth ≤ m) → PyData.depthAll ds ≤ m
  | [], _ => by simp [PyData.depthAll]
  | d :: ds, h => by
    have h1 := h d (by simp)
    have h2 := depthAll_le (ds := ds) fun e he => h e (by simp [he])
    simp only [PyData.depthAll]
    omega
theorem canLayAll_mem : ∀ {ds : List PyData}, (∀ d ∈ ds, d.canLay0 = true) → PyData.canLayAll0 ds = true
  | [], _ => rfl
  | d :: ds, h => by
    have h2 := canLayAll_mem (ds := ds) fun e he => h e (by simp [he])
    simp only [PyData.canLayAll0, h d (by simp), h2, Bool.and_self]
theorem narrowAll_of : ∀ {ds : List PyData}, (∀ d ∈ ds, narrow d = true) → narrowAll ds = true
  | [], _ => rfl
  | d :: ds, h => by
    have h2 := narrowAll_of (ds := ds) fun e he => h e (by simp [he])
    simp only [narrowAll, h d (by simp), h2, Bool.and_self]
end RG
/-! ### defs called where an exception is handled; lambdas handed to a def (own words over the hand layer) -/
namespace RG
open PySem PySem.Spec PyProof.Rows L2 HotX
section
variable {prog : Program} {w : World} {A : Around} {E : Value → Shared → Prop} {s : Shared}
/-- the end of a list's walk while an exception is handled -/
theorem list_end_hot {it l x1 : Addr} {i : Nat} {its : Array Value} {Q : Option Value → Shared → Prop} (hot : HotAt A x1 s.heap) (nx : x1 ≠ it) (st : s.heap.IsListIter it l i) (hl : s.heap.IsList l its) (no : its[i]? = none)
    (k : ∀ h2, Heap.ExtBut it s.heap h2 → Q none { s with heap := h2 }) : wpAny (model prog w) A (pyNext (.ref it)) Q E s := by
  obtain ⟨oi, goi, _, di⟩ := id st
  obtain ⟨ol, gol, _, nl, dl⟩ := hl
  obtain ⟨hh, o1, vs1, g1, d1, c1⟩ := hot
  unfold pyNext
  refine wpAny_bind (wpAny_attempt (wpAny_callSpecial?_slot (name := Str.ofString "__next__") st.typeIs slot_listiter_next (wpAny_call_entry slot_listiter_next st.typeIs entry_listiter_next ?_ (args_listiter_next _))))
  refine (show wpAny _ _ (field (.ref it) 0 >>= _) _ _ s from wpAny_bind (wpAny_field goi di (x := .ref l) rfl ?_))
  have n0 : ¬ ((Value.ref l == Value.none) = true) := Bool.false_ne_true
  show wpAny _ _ (if (Value.ref l == Value.none) = true then _ else _) _ _ s; rw [if_neg n0]
  refine (show wpAny _ _ (field (.ref it) 1 >>= _) _ _ s from wpAny_bind (wpAny_field goi di (x := .int i 0) rfl ?_))
  refine (show wpAny _ _ (seqItems? (.ref l) >>= _) _ _ s from wpAny_bind (wpAny_seqItems gol dl ?_))
  simp only [no, Int.toNat_natCast]
  refine wpAny_bind (wpAny_rule (wpAny_bind (wpAny_setField goi di (by simp) ?_)))
  have g2 : ∀ f, (s.heap.update it f).get? x1 = some o1 := fun f => by rw [Heap.get?_update_other _ _ nx.symm]; exact g1
  refine (show wpAny _ _ (newExc (.type "StopIteration") [] >>= _) _ _ _ from wpAny_bind ?_)
  simp only [newTuple, newExc]
  refine wpAny_bind (wpAny_newObj_type ?_ (by size_fits))
  refine wpAny_bind (m := firstArgMember _ _) (wpAny_of_eq (a := Value.none) (by first | rfl | (simp only [firstArgMember]; rfl)) (wpAny_newObj_type ?_ (by size_fits)))
  refine raiseNew_hot ⟨hh, o1, vs1, Heap.get?_push_of_some _ (Heap.get?_push_of_some _ (g2 _)), d1, c1⟩ (Nat.ne_of_lt (Heap.lt_size (Heap.get?_push_of_some _ (g2 _)))) (Heap.get?_push_size _ rfl) rfl (by first | (simp; done) | (simp; omega)) ?_
  refine wpAny_bind (wpAny_isInstance (T := "StopIteration") (b := true) ⟨_, Heap.get?_update_self _ (Heap.get?_push_size _ rfl) rfl, rfl⟩ isSubtype_stop (wpAny_pure (k _ fun b o nb e => ?_)))
  have e2 : ∀ f, (s.heap.update it f).get? b = some o := fun f => by rw [Heap.get?_update_other _ _ nb.symm]; exact e
  rw [Heap.get?_update_other _ _ (Nat.ne_of_gt (Heap.lt_size (Heap.get?_push_of_some _ (e2 _))))]
  exact Heap.get?_push_of_some _ (Heap.get?_push_of_some _ (e2 _))
end
end RG
namespace RG
open PySem PySem.Spec PyProof.Rows L2 HotX L2H
section
variable {X : Cx} {pins : List (Addr × Obj)} {σ : L2.St} {H : Hp} {s : Shared}
/-- the handled exception's object: out of the reach of all that changes -/
theorem hotC_pin {p : Addr × Obj} (hp : p ∈ X.pn) (I : Inv X pins σ H s) : s.heap.get? p.1 = some p.2 ∧ H p.1 = none ∧ p.1 ∉ frs X.stack ∧ ∀ v, p.2.data ≠ .cell v := by
  obtain ⟨a, b, c, d, e⟩ := I.pin p (List.mem_append_left _ hp)
  exact ⟨a, b, fun hm => (List.mem_cons.mp (I.stkSub p.1 hm)).elim c d, e⟩
/-- [elt for tg in iter] where an exception is handled: each item y by its x, nothing else changes -/
def tLcH (K : PySem.W.Frag) (ti : TE) (g : TG) (te : TE) (vs : List Nat) : TE := fun σ H Q => ti σ H fun v H1 => ∃ (a : Addr) (xs ys : List V), v = .ref a ∧ H1 a = some (.lst xs) ∧ ys.length = xs.length ∧ xs.length ≤ 1000 ∧
  (∀ (j : Nat) (x y : V) (H2 : Hp), xs[j]? = some x → ys[j]? = some y → g x (wipe σ vs) H2 fun σ2 H3 => wipe σ2 vs = wipe σ vs ∧ te σ2 H3 fun z H4 => z = y ∧ H4 = H2) ∧ ∀ D, H1 D = none → Q (.ref D) (upd H1 D (.lst ys))
theorem pe_lcH {elt tg iter : Expr} {scope : Scope} {own : List (Str × Nat)} {pos : Pos} {ti : TE} {g : TG} {te : TE} (hot : HotC X) (nd : X.N.Nodup) (hi : PE X iter ti) (ok : BlkOk X.N X.env.scope scope own)
    (hg : ∀ (s : Shared) (H : Hp) (C : Addr) (cl : List (Str × Addr)) (fp : List Addr), PG (X.blk s H scope (compEnvC scope cl C X.env) fp) tg g)
    (he : ∀ (s : Shared) (H : Hp) (C : Addr) (cl : List (Str × Addr)) (fp : List Addr), PE (X.blk s H scope (compEnvC scope cl C X.env) fp) elt te)
    (hs : ∀ x, foldedSetIterable iter X.env x = pure x := by intro _; rfl) : PE X (.ListComp elt [⟨tg, iter, [], 0⟩] scope pos) (tLcH X.K ti g te (own.map (·.2))) := by
  refine ⟨fun pins s σ H Q I h => ?_⟩
  obtain ⟨p, ⟨hh, v1, e1, c1⟩, hp⟩ := hot
  rw [eval_ListComp]
  have hfree : ∀ y ∈ scope.names, y.2 = .free → ∃ c, X.env.cells.lookup y.1 = some c := fun y hy e => (ok.free y hy e).elim (fun k => I.ok.has _ (.inl k)) fun k => I.ok.has _ (.inr k)
  refine wpAny_comprehension_free (use := none) rfl hs (closure_ok hfree) ok.kind (fun y hy e => by rw [ok.uniq y hy, e]) (thn (hi.run pins s σ H _ I h) fun xv s1 hx => ?_)
  obtain ⟨v, H1, I1, rv, a, xs, ys, rfl, ha, hyl, hxl, step, q⟩ := hx
  obtain rfl : xv = Value.ref a := rv
  obtain ⟨its, ri, pl, _⟩ := I1.list (SqL.of ha)
  refine wpAny_pyIter_list pl.isList ?_
  generalize hIt : s1.heap.objs.size = it
  generalize hs2 : ({ s1 with heap := s1.heap.push { cls := .type "list_iterator", data := .fields #[.ref a, .int 0 0] } } : Shared) = s2
  have h2 : s2.heap = s1.heap.push { cls := .type "list_iterator", data := .fields #[.ref a, .int 0 0] } := by rw [← hs2]
  have I2 : Inv X pins σ H1 s2 := by
    rw [← hs2]
    exact I1.kept (t' := s1.toks) fun b o e => Heap.get?_push_of_some _ e
  have st2 : s2.heap.IsListIter it a 0 := by
    rw [h2, ← hIt]
    exact ⟨_, Heap.get?_push_size _ rfl, rfl, rfl⟩
  have fit : FpOk X pins H1 it := I1.fpOk (Nat.le_of_eq hIt) (I1.hok.fresh (Nat.le_of_eq hIt))
  have lit : it < s2.heap.objs.size := by
    rw [h2, Heap.size_push, ← hIt]
    exact Nat.lt_succ_self _
  refine wpAny_newObj_type (newEnv_comp ?_) (by show 0 ≤ sizeLine; decide)
  generalize hD : s2.heap.objs.size = D
  have nD : H1 D = none := I2.hok.fresh (Nat.le_of_eq hD)
  have qD := q D nD
  generalize hs3 : ({ s2 with heap := s2.heap.push { cls := .type "list", data := .seq ([] : List Value).toArray } } : Shared) = s3
  have h3 : s3.heap = s2.heap.push { cls := .type "list", data := .seq ([] : List Value).toArray } := by rw [← hs3]
  have I3 : Inv X pins σ (upd H1 D (.lst [])) s3 := by
    rw [← hs3]
    refine I2.laid (t' := s2.toks) (fun b o e => Heap.get?_push_of_some _ e) (Nat.le_of_eq hD) ⟨Nat.zero_le _, [], 0, .nil, ?_⟩
    rw [← hD]
    exact Heap.get?_push_size _ rfl
  have fp3 : ∀ b ∈ [it], FpOk X pins (upd H1 D (.lst [])) b ∧ b < s3.heap.objs.size := fun b hb => by
    cases List.mem_singleton.mp hb
    refine ⟨⟨?_, fit.2⟩, by rw [h3, Heap.size_push]; exact Nat.lt_succ_of_lt lit⟩
    rw [upd_ne (by rw [← hD]; exact Nat.ne_of_lt lit)]
    exact fit.1
  have st3 : s3.heap.IsListIter it a 0 := st2.at fun o e => by rw [h3]; exact Heap.get?_push_of_some _ e
  have I4 := block_start I3 ok nd fp3
  have pg := hg s3 (upd H1 D (.lst [])) s3.heap.objs.size (cellsFrom (s3.heap.objs.size + 1) scope.names (cloFrom X.env.cells scope.names [])) [it]
  have pe := he s3 (upd H1 D (.lst [])) s3.heap.objs.size (cellsFrom (s3.heap.objs.size + 1) scope.names (cloFrom X.env.cells scope.names [])) [it]
  show codeAny _ _ (.compStart (.ListComp elt [⟨tg, iter, [], 0⟩] scope pos) 0 (.ref it) (.ref D) (compEnvC scope (cellsFrom (s3.heap.objs.size + 1) scope.names (cloFrom X.env.cells scope.names [])) s3.heap.objs.size X.env)) (compPost (model X.prog X.w) X.A X.xe none _ (.ref D) s3.heap.objs.size) { s3 with heap := pushCells (s3.heap.push { cls := .type "dict", data := .dict #[] }) scope.names }
  obtain ⟨gp, np, fp, _⟩ := hotC_pin hp I3
  have npit : p.1 ≠ it := (fp3 it (by simp)).1.2.2.2.2.2 p (List.mem_append_left _ hp)
  have nit3 : (upd H1 D (.lst [])) it = none := (fp3 it (by simp)).1.1
  generalize hce : compEnvC scope (cellsFrom (s3.heap.objs.size + 1) scope.names (cloFrom X.env.cells scope.names [])) s3.heap.objs.size X.env = ce at I4 pg pe ⊢
  have cL : ce.locals = s3.heap.objs.size := by subst hce; rfl
  have naD : a ≠ D := ne_of_none ha nD
  generalize hH3 : upd H1 D (.lst []) = H3 at I3 I4 pg pe fp3 np nit3
  generalize hs4 : ({ s3 with heap := pushCells (s3.heap.push { cls := .type "dict", data := .dict #[] }) scope.names } : Shared) = s4 at I4 ⊢
  have st4 : s4.heap.IsListIter it a 0 := st3.at fun o e => by rw [← hs4]; exact pushCells_keeps _ _ _ _ (Heap.get?_push_of_some _ e)
  have stat : ∀ {σ' : L2.St} {H' : Hp} {s' : Shared}, Inv (X.blk s3 H3 scope ce [it]) [] σ' H' s' → H' it = none → FpOk (X.blk s3 H3 scope ce [it]) [] H' it := fun {σ' H' s'} J hn =>
    ⟨hn, (J.ok.exf it (by simp)).1, J.ok.exfs it (by simp), .inl (by simp), fun x c e => (J.ok.exf it (by simp)).2 x c e, fun r hr => absurd (show r ∈ ([] : List (Addr × Obj)) ++ [] from hr) (by simp)⟩
  have loop : codeAny (model X.prog X.w) X.A (.compLoop (.ListComp elt [⟨tg, iter, [], 0⟩] scope pos) 0 (.ref it) (.ref D) ce) (compPost (model X.prog X.w) X.A X.xe none (EP X pins σ Q) (.ref D) s3.heap.objs.size) s4 := by
    refine compLoop_any (fun n s' => ∃ j, j ≤ xs.length ∧ n = xs.length - j ∧ Inv (X.blk s3 H3 scope ce [it]) [] (wipe σ (own.map (·.2))) (upd H1 D (.lst (ys.take j))) s' ∧ s'.heap.IsListIter it a j) ?_ xs.length ⟨0, Nat.zero_le _, rfl, by rw [List.take_zero, hH3]; exact I4, st4⟩
    rintro n s5 ⟨j, hj, rfl, I5, st5⟩
    have hn5 : (upd H1 D (.lst (ys.take j))) it = none := by
      rw [upd_ne (by rw [← hD]; exact Nat.ne_of_lt lit)]
      exact fit.1
    obtain ⟨f0, f1, f2, f3, f4, f5⟩ := stat I5 hn5
    have ha5 : (upd H1 D (.lst (ys.take j))) a = some (.lst xs) := by
      rw [upd_ne naD]
      exact ha
    obtain ⟨its5, ri5, pl5, _⟩ := I5.list (SqL.of ha5)
    have len5 := ri5.length
    rcases Nat.lt_or_ge j xs.length with hlt | hge
    · obtain ⟨u, hu, ru⟩ := ri5.get (show xs[j]? = some xs[j] from List.getElem?_eq_getElem hlt)
      refine wpAny_pyNext_list_item st5 pl5.isList (x := u) (by simpa using hu) fun h6 st6 sb => ?_
      have I6 : Inv (X.blk s3 H3 scope ce [it]) [] (wipe σ (own.map (·.2))) (upd H1 D (.lst (ys.take j))) { s5 with heap := h6 } := I5.turned (t' := s5.toks) (fun b o hb e => (sb.2 b hb).trans e) f0 f1 f3 f4 f5
      obtain ⟨o6, g6, c6, d6⟩ := id st6
      refine go_of (s := { s5 with heap := h6 }) g6 c6 d6 (by decide) ?_
      have I6' := I6.pinned (fp := [it]) (fun b hb => by cases List.mem_singleton.mp hb; exact stat I6 hn5) (fun b hb => by cases List.mem_singleton.mp hb; exact ⟨o6, g6, fun v z => by rw [d6] at z; cases z⟩)
      have hjy : j < ys.length := by omega
      have hstep := step j xs[j] ys[j] (upd H1 D (.lst (ys.take j))) (List.getElem?_eq_getElem hlt) (List.getElem?_eq_getElem hjy)
      refine thnF (pg.run _ _ _ _ xs[j] u _ I6' ru hstep) fun _ s8 ⟨σ8, H8, I8, hw8, q8⟩ => ?_
      refine wpAny_tests_nil ?_
      rw [if_pos rfl]
      refine thnF (pe.run _ s8 σ8 H8 _ I8 q8) fun z s10 ⟨yv, H10, I10, r10, ey, eH⟩ => ?_
      subst ey eH
      refine app_ok (X := X.blk s3 H3 scope ce [it]) I10 upd_same (by rw [List.length_take, sizeLine_eq]; omega) r10 fun s11 I11 => ?_
      have hl : (wipe σ (own.map (·.2))).length = σ8.length := by rw [← hw8, wipe_length]
      refine ⟨xs.length - (j + 1), by omega, j + 1, hlt, rfl, ?_, ?_⟩
      · have eU : upd (upd H1 D (.lst (ys.take j))) D (.lst (ys.take j ++ [ys[j]])) = upd H1 D (.lst (ys.take (j + 1))) := by
          rw [List.take_add_one, List.getElem?_eq_getElem hjy]
          funext b
          unfold upd
          split <;> rfl
        have I12 := (I11.unpinned (pins := [])).weak hl (fun m v e => by
          rw [← hw8] at e
          exact (wipe_some e).1)
        rw [eU] at I12
        exact I12
      · refine st6.at fun o e => ?_
        exact (I11.pin (it, o) (List.mem_append_right _ (List.mem_append_right _ (mem_pinsAt (by simp) e)))).1
    · have ej : j = xs.length := by omega
      subst ej
      have gp5 : s5.heap.get? p.1 = some p.2 := I5.base.keep p.1 p.2 gp np fp (by
        intro hm
        exact npit (List.mem_singleton.mp hm))
      refine list_end_hot (x1 := p.1) ⟨hh, p.2, v1, gp5, e1, c1⟩ npit st5 pl5.isList (by simp; omega) fun h6 eb => ?_
      have I6 : Inv (X.blk s3 H3 scope ce [it]) [] (wipe σ (own.map (·.2))) (upd H1 D (.lst (ys.take xs.length))) { s5 with heap := h6 } := I5.turned (t' := s5.toks) (fun b o hb e => eb b o hb e) f0 f1 f3 f4 f5
      have I7 : Inv X pins σ (upd H1 D (.lst (ys.take xs.length))) { s5 with heap := h6 } := I3.call' (ch := [it]) I6.os I6.base I6.hok I6.bare fun b hb => ⟨(fp3 b hb).1.2.2.2.1, (fp3 b hb).1.2.1, (fp3 b hb).1.2.2.2.2.1, (fp3 b hb).1.2.2.2.2.2⟩
      have nC : (upd H1 D (.lst (ys.take xs.length))) s3.heap.objs.size = none := by
        have z : (upd H1 D (.lst (ys.take xs.length))) ce.locals = none := I6.free
        rw [cL] at z
        exact z
      obtain ⟨m, hn, _⟩ := I6.loc
      have hn : h6.Ns ce.locals m := hn
      rw [cL] at hn
      obtain ⟨k0, k1, k2, k3, k4, k5⟩ := I3.fpOk (H' := upd H1 D (.lst (ys.take xs.length))) (Nat.le_refl _) nC
      refine ⟨m, hn, fun h'' sb => ⟨.ref D, _, I7.turned (t' := s5.toks) (fun b o hb e => (sb.2 b hb).trans e) k0 k1 k3 k4 k5, rfl, ?_⟩⟩
      rw [← hyl, List.take_length]
      exact qD
  exact codeAny_compStart_list loop (wpAny_pyIter_listiter st4 loop)
end
end RG
namespace RG
open PySem PySem.Spec PyProof.Rows L2 HotX L2H
section
variable {prog : Program} {w : World} {A : Around} {E : Value → Shared → Prop} {s : Shared}
theorem walks_hot {x1 I l : Addr} (hh : A.handled = some (.ref x1)) {o1 : Obj} {vs1 : Array Value} (d1 : o1.data = .fields vs1) (c1 : vs1[2]? = some .none) (nl : l ≠ I) (nx : x1 ≠ I) (its : Array Value) :
    Walks prog w A I [I, l, x1] [I] its.size (fun i v => its[i]? = some v) (fun i h => (h.IsListIter I l i ∧ h.IsList l its) ∧ h.get? x1 = some o1) where
  sub := fun b hb => by simp at hb; simp [hb]
  frame := fun _ _ _ st hk => ⟨⟨st.1.1.at fun o e => hk I (by simp) o e, st.1.2.at fun o e => hk l (by simp) o e⟩, hk x1 (by simp) _ st.2⟩
  item := fun i s Q E hi st hQ => by
    refine wpAny_pyNext_list_item st.1.1 st.1.2 (x := its[i]) (by simp [hi]) fun h2 st2 sb => ?_
    exact hQ _ h2 s.toks (by simp [hi]) ⟨⟨st2, st.1.2.extBut sb.extBut nl⟩, sb.extBut _ _ nx st.2⟩ fun b o hb e => sb.extBut b o (fun z => hb (by simp [z])) e
  done := fun s Q E st hQ => list_end_hot ⟨hh, o1, vs1, st.2, d1, c1⟩ nx st.1.1 st.1.2 (by simp) fun h2 eb => hQ h2 s.toks fun b o hb e => eb b o (fun z => hb (by simp [z])) e
  self := fun _ _ _ _ st hQ => wpAny_pyIter_listiter st.1.1 hQ
theorem sum_hot {x1 l : Addr} {its : List Value} {ns : List Int} {Q : Value → Shared → Prop} (hot : HotAt A x1 s.heap) (hl : s.heap.IsList l its.toArray) (hi : IntsAre its ns)
    (k : ∀ h2 tk t2, (∀ b o, s.heap.get? b = some o → h2.get? b = some o) → Q (.int ns.sum t2) { s with heap := h2, toks := tk }) : wpAny (model prog w) A (call (.builtin "sum") [.ref l]) Q E s := by
  obtain ⟨xs, e⟩ := hi.allInts.items
  have hn : numsOf (intItems xs).toList = ns := by rw [← e]; exact hi.numsOf
  rw [nums_intItems] at hn
  rw [e] at hl
  obtain ⟨hh, o1, vs1, g1, d1, c1⟩ := hot
  have lx : x1 < s.heap.objs.size := Heap.lt_size g1
  refine call_sum_walkG (iter_intList hl fun s2 e2 st hfp hlI => ?_)
  subst e2
  refine ⟨_, _, _, _, _, _, numAt xs, rfl, walks_hot (A := A.in1) (x1 := x1) hh d1 c1 hlI (Nat.ne_of_lt lx) (intItems xs), ⟨st, Heap.get?_push_of_some _ g1⟩, fun b hb => ?_, (fun _ _ => intItems_at), fun h2 tk t2 hk => ?_⟩
  · rcases List.mem_cons.mp hb with rfl | hb
    · exact hfp _ (by simp)
    · rcases List.mem_cons.mp hb with rfl | hb
      · exact hfp _ (by simp)
      · cases List.mem_singleton.mp hb
        show x1 < (s.heap.push _).objs.size
        rw [Heap.size_push]
        exact Nat.lt_succ_of_lt lx
  · have z := k h2 tk t2 (old_kept hk)
    rw [← hn] at z
    have e3 : preSum (numAt xs) xs.size = (xs.toList.map (·.1)).sum := by
      rw [preSum_eq, List.take_of_length_le (by simp)]
    simpa [intItems, e3] using z
end
section
variable {X : Cx}
theorem cr_sumH (hot : HotC X) : CallR X (.builtin "sum") (rSum X.K) := by
  intro pins s σ H vs us Q I r h
  obtain ⟨a, ns, rfl, hs, q⟩ := h
  obtain ⟨its, rv, hl, _⟩ := I.list hs
  obtain ⟨x1, ht⟩ := hot.at I
  rw [Vals.ref1 r]
  exact sum_hot ht hl.isList rv.ints fun h2 tk t2 hk => ⟨.int _, H, I.kept hk, ⟨_, rfl⟩, q⟩
end
end RG
namespace RG
open PySem PySem.W PySem.Spec PySem.Calls PyProof.Rows
section
variable {prog : Program} {w : World} {A : Around} {E : Value → Shared → Prop} {s : Shared} {K : Frag} {x D : Addr} {ox : Obj}
theorem found_class {od : Option Obj} (C : L2.ExcC K D) : findObj K D od "__class__" = some (.bind (.builtin "getset_descriptor.__get__") (.builtin "object.__class__")) := by
  obtain ⟨cd, hc, _⟩ := any_some C.hd
  unfold findObj
  rw [hc, Option.bind_some, C.ha, Option.bind_some]
  simp [C.hn, C.ht]
/-- e.__class__, whatever the exception's own dict -/
theorem class_of {Q : Option Value → Shared → Prop} {od : Option Obj} (C : L2.ExcC K D) (X : K.In s.heap) (I : PySem.W.InstAt s.heap x ox D od) (q : Q (some (.ref D)) { s with toks := s.toks + 1 }) : wpAny (model prog w) A (getAttr? (.ref x) "__class__") Q E s := by
  obtain ⟨hp, g, d, t, os⟩ := s
  have T0 := I.type (M := model prog w)
  have T1 := looks_findIn (M := model prog w) X C.hg
  have T2 := looks_findIn (M := model prog w) X C.hk
  have T3 := looks_find (M := model prog w) X I (found_class (od := od) C)
  have T4 : Looks (model prog w) hp (isInstance (.ref x) (.type "BaseException")) true := T0.andThen (looks_subIn X C.hs)
  have b0 : (Value.builtin "BaseException.__getattribute__" == Value.builtin "object.__getattribute__") = false := by decide +kernel
  have b1 : (onTheHeap (Value.ref D) && Value.builtin "BaseException.__getattribute__" == Value.builtin "object.__getattribute__") = false := by rw [b0]; rfl
  have b2 : (false && onTheHeap (Value.builtin "BaseException.__getattribute__")) = false := rfl
  unfold getAttr? getAttrBy? getAttrBy
  refine wpAny_bind (wpAny_mkText (wpAny_bind (wpAny_attempt (wpAny_holding (wpAny_bind (T0.at (wpAny_bind (T1.at ?_))))))))
  show wpAny _ _ (if (onTheHeap (Value.ref D) && Value.builtin "BaseException.__getattribute__" == Value.builtin "object.__getattribute__") = true then _ else _) _ _ _; rw [b1, if_neg Bool.false_ne_true]
  unfold getAttrByItsOwn hookBefore
  have b3 : onTheHeap (Value.ref D) = true := rfl
  refine wpAny_bind ?_; rw [if_pos b3]
  refine T2.at (wpAny_bind (wpAny_attempt (wpAny_holding ?_)))
  unfold callGetattribute
  rw [b2, if_neg Bool.false_ne_true]
  unfold boundAndCalled
  rw [PySem.F.excAttr_ValueError.ga.bind (.ref x)]
  refine wpAny_bind (wpAny_pure (show wpAny _ _ (call (.builtin "BaseException.__getattribute__") [.ref x, .str "__class__" t]) _ _ _ from wpAny_call (codeAny_call_builtin PySem.F.excAttr_ValueError.ga.plain PySem.F.entry_bexc_ga ?_)))
  refine @check_slot (model prog w) _ _ ⟨hp, g, d, t + 1, os⟩ "BaseException.__getattribute__" "BaseException" "__getattribute__" (.ref x) [.str "__class__" t] [] _ (by decide +kernel) (by decide +kernel) T4 (PySem.F.args_bexc_ga (.ref x) (.str "__class__" t)) ?_
  unfold Builtin.«object.__getattribute__»
  refine wpAny_bind (wpAny_of_eq (a := ((Value.ref x : Value), [Value.str "__class__" t])) (by first | rfl | (simp only [slotArgs]; rfl)) (wpAny_bind (wpAny_pure (wpAny_bind (T0.at (wpAny_bind (T3.at ?_)))))))
  show wpAny _ _ (holding [Value.builtin "object.__class__"] (call (.builtin "getset_descriptor.__get__") [.builtin "object.__class__", .ref x, .ref D]) >>= ret) _ _ _
  refine wpAny_bind (wpAny_holding (wpAny_call (class_get (s := ⟨hp, g, d, t + 1, os⟩) (ox := ox) (od := od) X I C.hm (wpAny_pure ?_))))
  show wpAny _ _ (handedOut (.ref D)) _ _ _; rw [handedOut_of (v := .ref D) rfl]
  first
    | exact wpAny_pure (wpAny_pure q)
    | exact wpAny_pure q
    | exact wpAny_pure (wpAny_bind (wpAny_pure (wpAny_pure q)))
theorem kit_exc (C : L2.ExcC K D) : KitX K (.ref x) (.ref D) (fun h => ∃ od, PySem.W.InstAt h x ox D od) where
  ty := fun _ _ _ ⟨_, I⟩ => I.type
  it := fun _ _ X _ => by
    obtain ⟨cd, hc, _⟩ := any_some C.hd
    unfold clsIn at hc
    split at hc
    · rename_i lk
      exact fun _ _ _ _ k q => by
        unfold isType loadHead
        exact wpAny_bind (wpAny_loadPart (k _ _ (X _ _ lk)) (wpAny_pure q))
    · cases hc
  ne := fun h tp dd its n sl X htp => by
    obtain ⟨cd, hc, _⟩ := any_some C.hd
    refine Bool.eq_false_iff.mpr fun z => ?_
    cases Value.ref.inj (beq_iff_eq.mp z)
    unfold clsIn at hc
    split at hc
    · rename_i lk
      cases (X _ _ lk).symm.trans htp
    · cases hc
  ca := fun X ⟨_, I⟩ k => class_of C X I k
end
end RG
namespace RG
open PySem PySem.Spec PyProof.Rows L2 HotX L2H
/-- isinstance(e, c), e the exception that is handled -/
def rIsP (K : PySem.W.Frag) (D a : Addr) (d : Option Addr) : List V → Hp → VK → Prop := fun xs H Q => ∃ (c : V) (cv : Value) (b : Bool), xs = [.ref a, c] ∧ (∀ u, RelV c u → u = cv) ∧ PySem.W.kitOne K (.ref D) cv = some b ∧ (∀ dx, d = some dx → ∃ fs, H dx = some (.xd fs)) ∧ Q (.bl b) H
theorem call_isP {X : Cx} {p : Addr × Obj} {D : Addr} {d : Option Addr} (hp : p ∈ X.pn) (C : ExcC X.K D) (hz : Zc (.ref D) d p.2) (hf : ∃ vs, p.2.data = .fields vs) : CallR X (.builtin "isinstance") (rIsP X.K D p.1 d) := by
  intro pins s σ H xs us Q I r h
  obtain ⟨c, cv, b, rfl, hcv, e, hd, q⟩ := h
  cases r with
  | cons rx rr =>
  cases rr with
  | cons rt rr =>
  cases rr
  cases rx
  cases hcv _ rt
  obtain ⟨gp, _⟩ := I.pin p (List.mem_append_left _ hp)
  have J : ∃ od, PySem.W.InstAt s.heap p.1 p.2 D od := by
    obtain ⟨vs, hv⟩ := hf
    obtain ⟨h1, h2⟩ := hz
    have no : PySem.W.notCls p.2 = true := by
      obtain ⟨a, o⟩ := p
      obtain ⟨oc, odd, oda, osl⟩ := o
      dsimp only at hv
      subst hv
      rfl
    cases hdd : d with
    | none =>
      refine ⟨none, gp, h1, no, ?_⟩
      rw [h2, hdd]
      trivial
    | some dx =>
      obtain ⟨fs, hx⟩ := hd dx hdd
      have := I.hok dx _ hx
      obtain ⟨o, ho⟩ : ∃ o, s.heap.get? dx = some o := by
        obtain ⟨_, ⟨o, _, _, ho, _⟩, _⟩ := this
        exact ⟨o, ho⟩
      refine ⟨some o, gp, h1, no, ?_⟩
      rw [h2, hdd]
      exact ho
  exact PySem.W.kia_one (kit_exc (x := p.1) (ox := p.2) C) I.kIn J e (fun z => nomatch z) fun tk => ⟨.bl b, H, I.kept (t' := tk) fun _ _ z => z, rfl, q⟩
end RG
namespace RG
open PySem PySem.Spec PyProof.Rows L2 HotX L2H
/-! a def called in an except suite: its promise by the handled exception's object -/
structure FnW (P : Program) (w : World) (K : PySem.W.Frag) (mg : Str → Option Value) (base : Heap) (k : Nat) (f : Addr) (fd : FuncData) (ps : List Str) (sp : Addr × Obj → Sp) : Prop where
  len : ∀ p vs H Q E, sp p vs H Q E → vs.length = ps.length
  run : ∀ (A : Around) (outer : List Env) (s : Shared) (H : Hp) (args : Args) (us : List Value) (vs : List V) (Q : VK) (E : XK) (p : Addr × Obj), RoomH k A → Hot1 A p → PinOk outer H s p → Env0 P w K mg base A outer s H → BindsTo s fd args (ps.zip us) → Vals vs us → sp p vs H Q E →
    codeAny (model P w) A (.call (.ref f) args) (CR (CXN P w) outer P w H s Q E) s
theorem fnW_of {P : Program} {w : World} {K : PySem.W.Frag} {mg : Str → Option Value} {base : Heap} {k : Nat} {x : Str} {st : Stmt} {N ps : List Str} {sp : Addr × Obj → Sp} {fd : FuncData} (F : FunD K x x (defArgs st) (defBody st) (defScope st) [] [] (He.ga K x) fd) (S : FnScope N ps (defScope st))
    (len : ∀ p vs H Q E, sp p vs H Q E → vs.length = ps.length)
    (body : ∀ (cdv : Value) (A : Around) (outer : List Env) (s : Shared) (H : Hp) (vs : List V) (Q : VK) (E : XK) (p : Addr × Obj), Hot1 A p → RoomH k (A.deeper (envOfC x (defScope st) s.heap.objs.size (He.ga K x) cdv)) → sp p vs H Q E →
      ∃ t, PSs (cxH (CXN P w) P w K mg base N x (defScope st) (He.ga K x) cdv A outer s H E p) (defBody st) t ∧ t { nx := fun _ H' => Q .non H', rt := Q } (L2.start N vs) H) : FnW P w K mg base (k + 1) (He.ga K x) fd ps sp := by
  obtain ⟨oc, od, dV, kV, doc, pm, an, cdv, ct, osl, rfl, lk, hcd, _⟩ := F.ex
  refine ⟨len, fun A outer s H args us vs Q E p hr hot hpin e0 hb r hsp => ?_⟩
  have hl := len _ _ _ _ _ hsp
  have X0 : K.In s.heap := e0.mod.kin.keeps fun b o e => (e0.bs b o e).1
  have L0 : s.heap.NoLimit := e0.mod.nolimit.keeps fun b o e => (e0.bs b o e).1
  have kn : ∀ y ∈ ps.zip us, (defScope st).names.lookup y.1 = some .local ∨ ((defScope st).names.lookup y.1 = some .cell ∧ ((cellsFrom (s.heap.objs.size + 1) (defScope st).names []).lookup y.1).isSome = true) := fun ⟨n, v⟩ hy =>
    (S.par n (List.of_mem_zip hy).1).elim .inl fun q => .inr ⟨q, PySem.W.cellsFrom_some _ _ _ (.inl q)⟩
  refine codeAny_call_function hr.depth (X0 _ _ lk) rfl S.co S.gen rfl (PySem.W.codeRec_of X0 hcd) (hb _ _ _ _ (wpAny_newFunctionEnv_cells S.kind kn fun env he s1 x1 => ?_))
  subst he
  refine ⟨L0.keeps x1.toInCall.keep, codeAny_func ?_⟩
  obtain ⟨t, ht, hq⟩ := body cdv A outer s H vs Q E p hot (hr.deeper _) hsp
  have I : Inv (cxH (CXN P w) P w K mg base N x (defScope st) (He.ga K x) cdv A outer s H E p) [] (L2.start N vs) H s1 := inv_startH S hpin e0 hl r x1
  refine wpAny_mono (ht.run [] s1 (L2.start N vs) H _ I hq) (fun fl s2 hs => ?_) fun _ _ z => z
  cases fl with
  | ret u =>
    obtain ⟨v, _, H2, J, rv, q⟩ := hs
    exact ⟨v, H2, J.os, J.bare, J.base, J.hok, rv, q⟩
  | next =>
    obtain ⟨_, H2, J, q⟩ := hs
    exact ⟨.non, H2, J.os, J.bare, J.base, J.hok, rfl, q⟩
  | brk =>
    obtain ⟨_, _, _, q⟩ := hs
    exact q.elim
  | cont =>
    obtain ⟨_, _, _, q⟩ := hs
    exact q.elim
/-- x(e), the handled exception's object p -/
def tCallW (sp : Sp) (t : TA) : TE := fun σ H Q => t σ H fun vs H1 => sp vs H1 Q E0
theorem pe_callW {X : Cx} {k : Nat} {x : Str} {fd : FuncData} {ps : List Str} {sp : Addr × Obj → Sp} {q pos : Pos} {e : Expr} {es : List Expr} {t : TA} {p : Addr × Obj} (F : FnW X.prog X.w X.K X.mg X.base k (He.ga X.K x) fd ps sp) (b : BindsE fd ps) (kp : PySem.W.keepIn X.K (.ref (He.ga X.K x)) = true) (hm : X.mg x = some (.ref (He.ga X.K x)))
    (hr : RoomH k X.A) (hot : Hot1 X.A p) (hp : p ∈ X.pn) (ha : PA X (e :: es) t) (hg : Gl X x := by rfl) (hdb : (x == ("__debug__" : Str)) = false := by decide)
    (he : starEach (e :: es) X.env = (false, eval e X.env) :: starEach es X.env := by rfl) (hpl : (backTo pos (starEach es X.env)).any (·.1) = false := by rfl) :
    PE X (.Call (.Name x q) (e :: es) [] pos) (tCallW (sp p) t) := by
  refine ⟨fun pins s σ H Q I h => wpAny_Call_Name_kw (ld_glob I hg hm ?_ hdb)⟩
  refine PySem.W.callWith_K (h₀ := X.base) I.ok.mod.kin kp (thn (ha.run pos pins s σ H _ I h) fun us s1 ⟨vs, H1, I1, r, hsp⟩ => ⟨I1.kIn, ?_⟩) he hpl
  have hl : us.length = ps.length := by rw [← r.length]; exact F.len _ _ _ _ _ hsp
  obtain ⟨gp, np, fp, cp⟩ := hotC_pin hp I1
  refine wpAny_call (codeAny_mono (F.run X.A X.stack s1 H1 ⟨us, []⟩ us vs Q E0 p hr hot ⟨gp, np, fp, cp⟩ I1.env0 (b s1 us hl) r hsp) fun r s2 hq => ?_)
  cases r with
  | error z =>
    obtain ⟨_, _, _, _, _, _, _, _, _, _, _, _, z⟩ := hq
    exact z.elim
  | ok fl =>
    cases fl with
    | ret u => exact I1.after hq
    | next => exact False.elim hq
    | brk => exact False.elim hq
    | cont => exact False.elim hq
/-! try: .. except x as n: ..; except y as n: .. -/
/-- what such clauses wish of an exception: slot i is the name's -/
def wNm (K : PySem.W.Frag) (i : Nat) (Wout : WX) (D : Ends) : List (Value × (Addr → Value → Option Addr → TS)) → WX
  | [] => Wout
  | (c, ts) :: r => fun cls d σ H => ∃ b, PySem.W.exmOne K cls c = some b ∧ (b = true → ∀ a, H a = none → ts a cls d { nx := fun σ2 H2 => D.nx (σ2.set i none) H2, rt := D.rt, bk := fun σ2 H2 => D.bk (σ2.set i none) H2, ct := fun σ2 H2 => D.ct (σ2.set i none) H2 } (σ.set i (some (.ref a))) H) ∧ (b = false → wNm K i Wout D r cls d σ H)
inductive HdsNm (X : Cx) (n : Str) : List ExceptHandler → List (Value × (Addr → Value → Option Addr → TS)) → Prop
  | nil : HdsNm X n [] []
  | cons {x : Str} {c : Value} {ts : Addr → Value → Option Addr → TS} {b0 : Stmt} {suite : List Stmt} {np ps : Pos} {hds : List ExceptHandler} {l : List (Value × (Addr → Value → Option Addr → TS))} (hc : Names X x c)
      (hsu : ∀ (a : Addr) (oe : Obj) (cls : Value) (d : Option Addr) (pn : List (Addr × Obj)), L2N.Zn cls d oe → (∃ vs, oe.data = .fields vs) → PSs (X.suite a ((a, oe) :: pn)) (b0 :: suite) (ts a cls d)) (r : HdsNm X n hds l) :
      HdsNm X n (.ExceptHandler (some (.Name x np)) (some n) (b0 :: suite) ps :: hds) ((c, ts) :: l)
section
variable {X : Cx} {body : List Stmt} {h0 : ExceptHandler} {hds : List ExceptHandler} {l : List (Value × (Addr → Value → Option Addr → TS))} {pos : Pos} {tb : WX → TS} {Wout : WX} {n : Str} {i : Nat}
theorem ps_tryN (hs : X.stack = X.env :: X.outer) (hf : X.env.frame = some X.env.locals) (nd : X.N.Nodup) (hi : X.N[i]? = some n) (hln : X.env.kindOf n = some .local) (tk : L2N.Takes X Wout)
    (hb : ∀ (W : WX) (pn : List (Addr × Obj)) (xe : Value → Shared → Prop), L2N.Takes (X.tr pn xe) W → PSs (X.tr pn xe) body (tb W))
    (hh : HdsNm X n (h0 :: hds) l) : PS X (.Try body (h0 :: hds) [] [] pos) (fun D σ H => tb (wNm X.K i Wout D l) D σ H) := by
  refine ⟨fun pins s σ H D I h => ?_⟩
  have ok := I.ok
  have fr : X.A.frames = some (X.env :: X.outer) := by rw [ok.frames, hs]
  refine wpAny_Try_except (wpAny_mono ((hb (wNm X.K i Wout D l) (X.pn ++ pins) (fun e s1 => wpAny (model X.prog X.w) X.A (noteFrame e X.env) (fun _ s2 => wpAny (model X.prog X.w) X.A (setFlight e none) (fun _ s3 =>
    wpAny (model X.prog X.w) X.A (handleBy e X.env (h0 :: hds)) (SP X pins D) X.xe s3) X.xe s2) X.xe s1) (fun u s9 xx => ?_)).run [] s σ H D (I.toTry _) h) (fun f s1 hsp => ?_) (fun _ _ z => z))
  · obtain ⟨a, B, sI, pins2, σ2, H2, cls, d, rfl, J2, nb, up, sky, na, os, ag, w⟩ := xx
    have J : Inv X pins σ2 H2 sI := J2.ofTry ok
    have sky2 : Sky B (X.env :: X.outer) a (L2N.Zn cls d) X.env.locals s9.heap := by rw [← hs]; exact sky
    refine (show wpAny (model X.prog X.w) X.A (noteFrame (.ref a) X.env) _ _ _ from L2N.Sky.land L2N.Zn.steady fr hf sky2 fun h3 fl3 up3 => ?_)
    have J3 : Inv X pins σ2 H2 { s9 with heap := h3 } := J.landed nb fl3.1 (up.trans up3) os ag
    obtain ⟨oe3, vs3, he3, hz3, hd3⟩ := fl3.there
    have nfr : a ∉ frs (X.env :: X.outer) := fun hm => by
      obtain ⟨_, o2, e2, hnf⟩ := fl3.2.2.1.mem hm
      rw [he3] at e2
      cases e2
      exact hnf _ hd3
    have nL : a ≠ X.env.locals := fun z => nfr (List.mem_filterMap.mpr ⟨X.env, List.mem_cons_self, by rw [hf, z]⟩)
    have nF : a ∉ X.fs := fun hm => by
      obtain ⟨e, he, q⟩ := List.mem_filterMap.mp hm
      exact nfr (List.mem_filterMap.mpr ⟨e, List.mem_cons_of_mem _ he, q⟩)
    have S3 := J3.suite he3 hd3 na nL nF
    have go : ∀ {hs2 : List ExceptHandler} {l2 : List (Value × (Addr → Value → Option Addr → TS))}, HdsNm X n hs2 l2 → wNm X.K i Wout D l2 cls d σ2 H2 → wpAny (model X.prog X.w) X.A (handleBy (.ref a) X.env hs2) (SP X pins D) X.xe { s9 with heap := h3 } := by
      intro hs2 l2 hk
      induction hk with
      | nil =>
        intro w
        refine wpAny_handleBy_nil ?_
        obtain ⟨_, _, _, oe, vs, T, _, _, he, _, hd, h1, _⟩ := id fl3
        have nT : ¬ ((Value.ref T == Value.none) = true) := by simp
        unfold PySem.passOn
        refine wpAny_bind (wpAny_field he hd h1 ?_); rw [if_neg nT]
        have fin : wpAny (model X.prog X.w) X.A (setFlight (.ref a) X.env.frame) (fun _ s4 => wpAny (model X.prog X.w) X.A (throw (.ref a) : Sem Flow) (SP X pins D) X.xe s4) X.xe { s9 with heap := h3 } := by
          rw [hf]
          exact HandSPX.setFlight_upZ fl3 fun h4 hh4 up4 => wpAny_throw (tk _ _ ⟨a, B, sI, pins, σ2, H2, cls, d, rfl, J, nb, (up.trans up3).trans up4, .inr (.inr (by rw [hs]; exact hh4)), na, os, ag, w⟩)
        first
          | exact wpAny_bind (wpAny_pure (wpAny_bind fin))
          | exact wpAny_bind fin
      | @cons x c ts b0 suite np ps hds2 l2 hc hsu r ih =>
        intro w
        obtain ⟨b, hb1, hyes, hno⟩ := w
        refine wpAny_handleBy_cons (codeAny_handlers_test ?_) (by intro q; cases q)
        have LT : PySem.W.Looks (model X.prog X.w) h3 (typeOf (.ref a)) cls := fun A Q E s k q => wpAny_typeOf_ref (k _ _ he3) (by rw [hz3.1]; exact q)
        have LM := PySem.W.exm_one (M := model X.prog X.w) (J3.kIn) LT hb1
        have test : ∀ {Q : Value → Shared → Prop} {E : Value → Shared → Prop}, Q c { s9 with heap := h3 } → wpAny (model X.prog X.w) (X.A.mark (some (.ref a))) (eval (.Name x np) X.env) Q E { s9 with heap := h3 } := fun {Q E} q => by
          obtain ⟨hg, hdbg, hm | ⟨hm, hv, hnn⟩⟩ := hc
          · exact ld_glob (X := X.suite a ((a, oe3) :: (X.pn ++ pins))) S3 hg hm q hdbg
          · exact ld_blt (X := X.suite a ((a, oe3) :: (X.pn ++ pins))) S3 hg hm hv q hnn hdbg
        refine test (LM.here ?_)
        cases b with
        | true =>
          refine codeAny_handlers_suite_as (HandSPX.lands_againZ fl3 fun h4 fl4 up4 => ?_)
          have J4 : Inv X pins σ2 H2 { s9 with heap := h4 } := J.landed nb fl4.1 ((up.trans up3).trans up4) os ag
          obtain ⟨oe4, vs4, he4, hz4, hd4⟩ := fl4.there
          have S4 := J4.suite he4 hd4 na nL nF
          refine store_ok (X := X.suite a ((a, oe4) :: (X.pn ++ pins))) (v := .ref a) S4 nd hi (.inl hln) rfl (fun s5 S5 => ?_) (.inr hln)
          refine wpAny_mono ((hsu a oe4 cls d (X.pn ++ pins) hz4 ⟨_, hd4⟩).run [] s5 _ H2 _ S5 (hyes rfl a na)) (fun f s6 hsp => ?_) (fun _ _ z => z.elim)
          have fin : ∀ {σ6 : L2.St} {H6 : Hp} {Q : Shared → Prop}, Inv (X.suite a ((a, oe4) :: (X.pn ++ pins))) [] σ6 H6 s6 → (∀ s7, Inv X pins (σ6.set i none) H6 s7 → Q s7) →
            wpAny (model X.prog X.w) X.A (do bindName X.env n .none; unbindBehindTheSuite X.env n ps) (fun _ s7 => Q s7) X.xe s6 := fun {σ6 H6 Q} S6 hq => gone_ok (S6.unsuite ok) nd hi hln hq
          cases f with
          | next =>
            obtain ⟨_, _, S6, q6⟩ := hsp
            exact fin S6 fun _ J7 => ⟨_, _, J7, q6⟩
          | brk =>
            obtain ⟨_, _, S6, q6⟩ := hsp
            exact fin S6 fun _ J7 => ⟨_, _, J7, q6⟩
          | cont =>
            obtain ⟨_, _, S6, q6⟩ := hsp
            exact fin S6 fun _ J7 => ⟨_, _, J7, q6⟩
          | ret u =>
            obtain ⟨_, _, _, S6, r6, q6⟩ := hsp
            exact fin S6 fun _ J7 => ⟨_, _, _, J7, r6, q6⟩
        | false => exact (show wpAny _ X.A (handleBy (.ref a) X.env hds2) _ _ _ from ih (hno rfl))
    exact go hh w
  · cases f with
    | next =>
      obtain ⟨_, _, J2, q⟩ := hsp
      exact wpAny_execs_nil ⟨_, _, J2.ofTry ok, q⟩
    | brk =>
      obtain ⟨_, _, J2, q⟩ := hsp
      exact ⟨_, _, J2.ofTry ok, q⟩
    | cont =>
      obtain ⟨_, _, J2, q⟩ := hsp
      exact ⟨_, _, J2.ofTry ok, q⟩
    | ret u =>
      obtain ⟨_, _, _, J2, r, q⟩ := hsp
      exact ⟨_, _, _, J2.ofTry ok, r, q⟩
end
end RG
namespace RG
open PySem PySem.Spec PyProof.Rows L2 HotX L2H LamX
/-! a lambda whose errors keep what is known of their context -/
abbrev lamCxN (X : Cx) (A : Around) (outer : List Env) (s : Shared) (H : Hp) (E : XK) (scope : Scope) (f c2 : Addr) : Cx :=
  (lamCx X A outer s H E scope f c2).tr [] fun e s1 => wpAny (model X.prog X.w) (A.deeper (lamEnv X scope s.heap.objs.size f c2)) (leaving (lamEnv X scope s.heap.objs.size f c2) e) (fun _ s2 => CXN X.prog X.w outer H s E e s2) (fun e2 s2 => CXN X.prog X.w outer H s E e2 s2) s1
section
variable {X : Cx} {pins : List (Addr × Obj)} {σ : L2.St} {H HZ : Hp} {s s1 : Shared}
theorem pe_actN {Eg : XK} {Ng : List Str} {qg : Str} {sg : Scope} {g f c2 : Addr} {cdg pm ctv : Value} {params : Arguments} {body : Expr} {scope : Scope} {k i : Nat} {a : Str} {pn : List (Addr × Obj)} {xe : Value → Shared → Prop} {W : WX} {E : XK} {tb : TE} {p1 p2 : Pos}
    (I : Inv X pins σ H s) (L : LamS X.env.scope scope) (hf : s.heap.get? f = some (PySem.W.kla_obj "<lambda>" (X.env.qual ++ "<lambda>") params body scope (cloFrom X.env.cells scope.names []) pm c2 ctv)) (nf : H f = none) (fr : f ∉ frs X.stack)
    (hbind : bindArgs (PySem.W.kla_fn "<lambda>" (X.env.qual ++ "<lambda>") params body scope (cloFrom X.env.cells scope.names []) pm (.ref c2) ctv) ⟨[], []⟩ = pure [])
    (tk : L2N.Takes ((cxOf (CXN X.prog X.w) X.prog X.w X.K X.mg X.base Ng qg sg g cdg X.A X.stack s H Eg).tr pn xe) W) (hW : ∀ cls d (σ2 : L2.St) H2, σ2.length = Ng.length → E cls d H2 → W cls d σ2 H2) (hr : Room (k + 1) (X.A.deeper (envOfC qg sg s.heap.objs.size g cdg)))
    (hbody : ∀ (A : Around) (outer : List Env) (s : Shared) (H : Hp), Room k (A.deeper (lamEnv X scope s.heap.objs.size f c2)) → PE (lamCxN X A outer s H E scope f c2) body tb)
    (hN : Ng[i]? = some a) (hv : Vis sg a) (hd : (a == ("__debug__" : Str)) = false := by decide) (hcd : (a == ("__classdict__" : Str)) = false := by decide) :
    PE ((cxOf (CXN X.prog X.w) X.prog X.w X.K X.mg X.base Ng qg sg g cdg X.A X.stack s H Eg).tr pn xe) (.Call (.Name a p1) [] [] p2) (fun σZ HZ Q => σZ[i]? = some (some (.ref f)) ∧ HZ c2 = some (CodeO c2 (X.env.qual ++ "<lambda>")) ∧ tb σ HZ Q) := by
  refine ⟨fun pinsZ sZ σZ HZ Q IZ h => ?_⟩
  obtain ⟨hs, hc, ht⟩ := h
  refine wpAny_Call_Name_kw (thn ((pe_var (pos := p1) (i := i) hN hv hd hcd).run pinsZ sZ σZ HZ (fun v H1 => v = .ref f ∧ H1 = HZ) IZ ⟨.ref f, hs, rfl, rfl⟩) fun u s1 ⟨v, H1, I1, r1, ev, eH⟩ => ?_)
  subst ev
  rw [eH] at I1
  obtain rfl : u = Value.ref f := r1
  have g1 : s1.heap.get? f = some (PySem.W.kla_obj "<lambda>" (X.env.qual ++ "<lambda>") params body scope (cloFrom X.env.cells scope.names []) pm c2 ctv) := I1.base.keep f _ hf nf fr fun z => nomatch (show f ∈ ([] : List Addr) from z)
  have un : Un (frs X.stack) [] H HZ s.heap s1.heap := I1.base
  obtain ⟨⟨oc, vs, t, hoc, hdc, hvc⟩, _, _⟩ := I1.hok c2 _ hc
  have rc : codeAny (model X.prog X.w) (X.A.deeper (envOfC qg sg s.heap.objs.size g cdg)) (.call (.ref f) ⟨[], []⟩) (CR (CXN X.prog X.w) (envOfC qg sg s.heap.objs.size g cdg :: X.stack) X.prog X.w HZ s1 Q E) s1 := by
    refine PySem.W.kla_callFunE hr.depth g1 rfl L.co L.gen rfl ⟨c2, oc, vs, t, rfl, hoc, hdc, hvc⟩ ?_
    rw [hbind]
    refine wpAny_pure (wpAny_newFunctionEnv (fun y hy => (L.own y hy).2) (fun y hy => absurd hy (by simp)) (fun h2 hns hsb => ⟨I1.nolimit.fresh _ hsb, ?_⟩) L.kind)
    have kp : ∀ b o, s1.heap.get? b = some o → h2.get? b = some o := fun b o e => hsb.extBut b o (Nat.ne_of_lt (Heap.lt_size e)) (Heap.get?_push_of_some _ e)
    have J0 : Inv (lamCx X (X.A.deeper (envOfC qg sg s.heap.objs.size g cdg)) (envOfC qg sg s.heap.objs.size g cdg :: X.stack) s1 HZ E scope f c2) [] σ HZ { s1 with heap := h2, toks := s1.toks + ([] : List (Str × Value)).length } := lam_start2 I L I1.env0 hr.hd un hns kp
    have J : Inv (lamCxN X (X.A.deeper (envOfC qg sg s.heap.objs.size g cdg)) (envOfC qg sg s.heap.objs.size g cdg :: X.stack) s1 HZ E scope f c2) [] σ HZ { s1 with heap := h2, toks := s1.toks + ([] : List (Str × Value)).length } := J0.toTry _
    refine (show codeAny _ _ (.expr body (lamEnv X scope s1.heap.objs.size f c2)) _ _ from PySem.W.kla_codeExpr (wpAny_mono ((hbody _ _ s1 HZ (hr.deeper _)).run [] _ _ HZ Q J ht) (fun v s2 hq => ?_) fun _ _ hq => hq))
    obtain ⟨v2, H2, J2, rv, q⟩ := hq
    exact ⟨v2, H2, J2.os, J2.bare, J2.base, J2.hok, rv, q⟩
  refine PySem.W.callWith_F0 ⟨_, _, _, _, g1⟩ (wpAny_call (codeAny_mono rc fun r s2 hq => ?_))
  cases r with
  | error e => exact tk e s2 (L2N.XE.of_call I1 (fun cls d H3 h => hW cls d σZ H3 I1.len h) hq)
  | ok fl =>
    cases fl with
    | ret u => exact I1.after hq
    | next => exact False.elim hq
    | brk => exact False.elim hq
    | cont => exact False.elim hq
end
/-- the def that calls what it got; TT: what it makes of the lambda's reading -/
def GivesN (X : Cx) (k : Nat) (Ng : List Str) (x : Str) (sg : Scope) (g : Addr) (bg : List Stmt) (a : Str) (q : Str) (TT : (XK → Hp → VK → Prop) → Hp → VK → Prop) : Prop :=
  ∀ (cdg : Value) (f c2 : Addr) (s : Shared) (H : Hp) (Q : VK) (tl : XK → Hp → VK → Prop), Room k (X.A.deeper (envOfC x sg s.heap.objs.size g cdg)) →
    (∀ (W : WX) (pn : List (Addr × Obj)) (xe : Value → Shared → Prop) (E : XK) (p1 p2 : Pos), L2N.Takes ((cxOf (CXN X.prog X.w) X.prog X.w X.K X.mg X.base Ng x sg g cdg X.A X.stack s H E0).tr pn xe) W → (∀ cls d (σ2 : L2.St) H2, σ2.length = Ng.length → E cls d H2 → W cls d σ2 H2) →
      PE ((cxOf (CXN X.prog X.w) X.prog X.w X.K X.mg X.base Ng x sg g cdg X.A X.stack s H E0).tr pn xe) (.Call (.Name a p1) [] [] p2) (fun σZ HZ Q => σZ[0]? = some (some (.ref f)) ∧ HZ c2 = some (CodeO c2 q) ∧ tl E HZ Q)) →
    H c2 = some (CodeO c2 q) → TT tl H Q → ∃ t, PSs (cxOf (CXN X.prog X.w) X.prog X.w X.K X.mg X.base Ng x sg g cdg X.A X.stack s H E0) bg t ∧ t { nx := fun _ H2 => Q .non H2, rt := Q } (L2.start Ng [.ref f]) H
section
variable {X : Cx}
/-- x(lambda: body) -/
theorem pe_lamN {T : List (Addr × Str)} {TT : (XK → Hp → VK → Prop) → Hp → VK → Prop} {x a : Str} {st : Stmt} {fd : FuncData} {c P : Addr} {k : Nat} {Ng : List Str} {params : Arguments} {body : Expr} {scope : Scope} {t : XK → TE} {p lpos pos : Pos}
    (hm : X.mg x = some (.ref (He.ga X.K x))) (F : FunD X.K x x (defArgs st) (defBody st) (defScope st) [] [] (He.ga X.K x) fd) (hb : BindAll x st [a]) (Sg : FnScope Ng [a] (defScope st)) (hNg : Ng[0]? = some a) (hva : Vis (defScope st) a)
    (hG : GivesN X (k + 1) Ng x (defScope st) (He.ga X.K x) (defBody st) a (X.env.qual ++ "<lambda>") TT)
    (TB : TabB X.base X.mg c P) (hcode : X.env.code = .ref c) (hmT : (P, X.env.qual ++ "<lambda>") ∈ T) (hu : ∀ p ∈ T, p.1 = P → p.2 = X.env.qual ++ "<lambda>") (hr : Room (k + 2) X.A) (L : LamS X.env.scope scope) (hdef : defaultsOf params X.env = ([], []))
    (hbind : ∀ (q : Str) (cl : List (Str × Addr)) (pm cv ctv : Value), bindArgs (PySem.W.kla_fn "<lambda>" q params body scope cl pm cv ctv) ⟨[], []⟩ = pure [])
    (hbody : ∀ (A : Around) (outer : List Env) (s : Shared) (H : Hp) (E : XK) (f c2 : Addr), Room k (A.deeper (lamEnv X scope s.heap.objs.size f c2)) → PE (lamCxN X A outer s H E scope f c2) body (t E))
    (hg : Gl X x := by rfl) (hdb : (x == ("__debug__" : Str)) = false := by decide) (hd : (a == ("__debug__" : Str)) = false := by decide) (hcd : (a == ("__classdict__" : Str)) = false := by decide) :
    PE X (.Call (.Name x p) [.Lambda params body scope lpos] [] pos) (tLam T TT t) := by
  refine ⟨fun pins s σ H Q I h => ?_⟩
  obtain ⟨hT, h⟩ := h
  obtain ⟨oc, od, dV, kV, doc, pm, an, cdv, ct, osl, rfl, lk, hcg, _⟩ := F.ex
  refine wpAny_Call_Name_kw (ld_glob I hg hm (PySem.W.callWith_K (h₀ := X.base) I.ok.mod.kin F.kp ?_ (by rfl) (by rfl)) hdb)
  refine (show wpAny _ _ (spliced ((false, eval (.Lambda params body scope lpos) X.env) :: backTo pos (starEach [] X.env))) _ _ s from Calls.spliced_cons (lam_make2 I TB hcode hmT hu hT hdef (L.has I.ok) fun f c2 pm2 ctv H1 s1 I1 eN T1 hf nf fr hco => ?_))
  refine Calls.spliced_nil ⟨I1.kIn, ?_⟩
  have rc : codeAny (model X.prog X.w) X.A (.call (.ref (He.ga X.K x)) ⟨[.ref f], []⟩) (CR (CXN X.prog X.w) X.stack X.prog X.w H1 s1 Q E0) s1 :=
    run_ofS (N := Ng) (ps := [a]) (us := [.ref f]) (vs := [.ref f]) lk hcg Sg hr I1.env0 ((F.bindsA hb) s1 [.ref f] rfl) (.cons rfl .nil) rfl fun hr2 =>
      hG cdv f c2 s1 H1 Q (fun E H2 Q2 => t E σ H2 Q2) hr2 (fun W pn xe E p1 p2 tk hW => pe_actN (i := 0) I1 L hf nf fr (hbind _ _ _ _ _) tk hW hr2 (fun A outer s H hr3 => hbody A outer s H E f c2 hr3) hNg hva hd hcd) hco (h H1 eN T1)
  refine wpAny_call (codeAny_mono rc fun r s2 hq => ?_)
  cases r with
  | error e =>
    obtain ⟨_, _, _, _, _, _, _, _, _, _, _, _, z⟩ := hq
    exact z.elim
  | ok fl =>
    cases fl with
    | ret u => exact I1.after hq
    | next => exact False.elim hq
    | brk => exact False.elim hq
    | cont => exact False.elim hq
end
end RG
/-! ### refusals told: what _law_word and _law_told promise -/
namespace RG
open PySem PySem.Spec PyProof.Rows L2 HotX L2H LamX
def wnames : List Str := ["BadUser", "BadDeal", "BadCondition", "BadRules", "BadName", "BadNumber", "Known", "Needed", "Ring", "Full", "BadDay", "Nothing", "BadText"]
def excCB (K : PySem.W.Frag) (D : Addr) : Bool := decide (PySem.W.findIn K (.ref D) "__getattribute__" = some (some (.builtin "BaseException.__getattribute__"))) && (decide (PySem.W.findIn K (.ref D) "__getattr__" = some none) && (decide (PySem.W.subIn K (.ref D) (.type "BaseException") = some true) && (PySem.W.hasDictIn K D &&
  (decide (PySem.W.findIn K (.ref D) "__class__" = some (some (.builtin "object.__class__"))) && (decide (PySem.W.specialIn K (.builtin "object.__class__") "__get__" = some (some (.builtin "getset_descriptor.__get__"))) && (decide (PySem.W.takesIn K (.builtin "object.__class__") = some true) && decide (PySem.W.mroIn K D (.type "object") = some true)))))))
theorem excCB_ok {K : PySem.W.Frag} {D : Addr} (h : excCB K D = true) : ExcC K D := by
  simp only [excCB, Bool.and_eq_true, decide_eq_true_eq] at h
  obtain ⟨h1, h2, h3, h4, h5, h6, h7, h8⟩ := h
  exact ⟨h1, h2, h3, h4, h5, h6, h7, h8⟩
def wordB (K : PySem.W.Frag) : Bool := (wnames.all fun c => excCB K (He.ga K c) && (decide (PySem.W.kitOne K (.ref (He.ga K c)) (.type "ValueError") = some true) && (decide (PySem.W.exmOne K (.ref (He.ga K c)) (.ref (He.ga K "Needed")) = some (decide (c = "Needed"))) && (decide (PySem.W.exmOne K (.ref (He.ga K c)) (.ref (He.ga K "GateError")) = some true) &&
  wnames.all fun b => decide (PySem.W.kitOne K (.ref (He.ga K c)) (.ref (He.ga K b)) = some (decide (c = b))))))) && (xfB K (He.ga K "Needed") && decide (PySem.W.findIn K (.ref (He.ga K "Needed")) "by" = some none))
/-- what the refusals' classes say of one another -/
structure WordOk (K : PySem.W.Frag) : Prop where
  exc : ∀ c ∈ wnames, ExcC K (He.ga K c)
  val : ∀ c ∈ wnames, PySem.W.kitOne K (.ref (He.ga K c)) (.type "ValueError") = some true
  need : ∀ c ∈ wnames, PySem.W.exmOne K (.ref (He.ga K c)) (.ref (He.ga K "Needed")) = some (decide (c = "Needed"))
  gate : ∀ c ∈ wnames, PySem.W.exmOne K (.ref (He.ga K c)) (.ref (He.ga K "GateError")) = some true
  kit : ∀ c ∈ wnames, ∀ b ∈ wnames, PySem.W.kitOne K (.ref (He.ga K c)) (.ref (He.ga K b)) = some (decide (c = b))
  xf : XfC K (He.ga K "Needed")
  noby : PySem.W.findIn K (.ref (He.ga K "Needed")) "by" = some none
theorem wordB_ok {K : PySem.W.Frag} (h : wordB K = true) : WordOk K := by
  simp only [wordB, Bool.and_eq_true, List.all_eq_true, decide_eq_true_eq] at h
  obtain ⟨h1, h2, h3⟩ := h
  exact ⟨fun c hc => excCB_ok (h1 c hc).1, fun c hc => (h1 c hc).2.1, fun c hc => (h1 c hc).2.2.1, fun c hc => (h1 c hc).2.2.2.1, fun c hc => (h1 c hc).2.2.2.2, xfB_ok h2, h3⟩
/-- the word of a refusal: p the handled exception -/
def spWord (K : PySem.W.Frag) (p : Addr × Obj) : Sp := fun vs H Q _ => vs = [.ref p.1] ∧ ∃ (c : Str) (d : Option Addr), c ∈ wnames ∧ Zc (.ref (He.ga K c)) d p.2 ∧ (∃ ws, p.2.data = .fields ws) ∧ (∀ dx, d = some dx → ∃ fs, H dx = some (.xd fs)) ∧
  ∀ t H2, Same H H2 → H t = none → H2 t = some (.tup [.str "refused", .str c]) → Q (.ref t) H2
section
variable {K : PySem.W.Frag} {H : Hp} {Q : VK} {σ : L2.St}
theorem w_isP {D a : Addr} {d : Option Addr} {b : Str} {r : Bool} (e : PySem.W.kitOne K (.ref D) (.ref (He.ga K b)) = some r) (hd : ∀ dx, d = some dx → ∃ fs, H dx = some (.xd fs)) (h : Q (.bl r) H) : rIsP K D a d [.ref a, .ref (He.ga K b)] H Q :=
  ⟨_, .ref (He.ga K b), r, rfl, fun _ z => z, e, hd, h⟩
theorem w_isPT {D a : Addr} {d : Option Addr} {b : String} {r : Bool} (e : PySem.W.kitOne K (.ref D) (.type b) = some r) (hd : ∀ dx, d = some dx → ∃ fs, H dx = some (.xd fs)) (h : Q (.bl r) H) : rIsP K D a d [.ref a, .ty b] H Q :=
  ⟨_, .type b, r, rfl, fun _ z => z, e, hd, h⟩
theorem xd_s {H2 : Hp} {d : Option Addr} (hd : ∀ dx, d = some dx → ∃ fs, H dx = some (.xd fs)) (s : Same H H2) : ∀ dx, d = some dx → ∃ fs, H2 dx = some (.xd fs) := fun dx e => by
  obtain ⟨fs, h⟩ := hd dx e
  exact ⟨fs, s _ _ h⟩
theorem w_lcH {ti te : TE} {g : TG} {vs : List Nat} (h : ti σ H fun v H1 => ∃ (a : Addr) (xs ys : List V), v = .ref a ∧ H1 a = some (.lst xs) ∧ ys.length = xs.length ∧ xs.length ≤ 1000 ∧
    (∀ (j : Nat) (x y : V) (H2 : Hp), xs[j]? = some x → ys[j]? = some y → g x (wipe σ vs) H2 fun σ2 H3 => wipe σ2 vs = wipe σ vs ∧ te σ2 H3 fun z H4 => z = y ∧ H4 = H2) ∧ ∀ D, H1 D = none → Q (.ref D) (upd H1 D (.lst ys))) : tLcH K ti g te vs σ H Q := h
theorem huH {k : Nat} {A : Around} (hr : RoomH k A) : A.units + 65 < cLine := by
  have := hr.un
  omega
end
abbrev flagsL (c : Str) : List Bool := wnames.map fun b => decide (c = b)
theorem flags_sum : ∀ c ∈ wnames, ((flagsL c).map fun b => if b then (1 : Int) else 0).sum = 1 := by decide +kernel
theorem flags_ix : ∀ c ∈ wnames, ∃ j : Fin 13, wnames[j.val]? = some c ∧ (flagsL c)[j.val]? = some true ∧ ∀ m : Fin 13, m.val < j.val → (flagsL c)[m.val]? = some false := by decide +kernel
theorem dpAll_bools {K : PySem.W.Frag} {H : Hp} : ∀ bs : List Bool, DpAll K H (bs.map V.bl) (bs.map PyData.bool)
  | [] => .nil
  | b :: bs => .cons (.bl b) (dpAll_bools bs)
theorem canLay_bools : ∀ bs : List Bool, PyData.canLayAll0 (bs.map PyData.bool) = true
  | [] => rfl
  | b :: bs => by simp only [List.map_cons, PyData.canLayAll0, PyData.canLay0, canLay_bools bs, Bool.and_self]
theorem depth_bools : ∀ bs : List Bool, PyData.depthAll (bs.map PyData.bool) ≤ 1
  | [] => by simp [PyData.depthAll]
  | b :: bs => by
    have := depth_bools bs
    simp only [List.map_cons, PyData.depthAll, PyData.depth]
    omega
theorem shaped_bools (bs : List Bool) (h : bs.length ≤ 1000) : SeqAt.shaped (.list (bs.map PyData.bool)) = true := by
  have h2 := depth_bools bs
  have h3 : PyData.depth (.list (bs.map PyData.bool)) ≤ 64 := by
    simp only [PyData.depth]
    omega
  simp only [SeqAt.shaped, PyData.canLay0, canLay_bools bs, decide_eq_true h3, Bool.and_self]
/-- what is made of a refusal that a deed lets out -/
def toldE (K : PySem.W.Frag) (Q : VK) : XK := fun cls d H => ∃ c ∈ wnames, cls = .ref (He.ga K c) ∧ ((c ≠ "Needed" ∧ d = none ∧ ∀ t H2, Same H H2 → H t = none → H2 t = some (.tup [.str "refused", .str c]) → Q (.ref t) H2) ∨
  (c = "Needed" ∧ ∃ dx v, d = some dx ∧ H dx = some (.xd [("by", v)]) ∧ ∀ t H2, Same H H2 → H t = none → H2 t = some (.tup [.str "refused", .str "Needed", v]) → Q (.ref t) H2))
def toldT (K : PySem.W.Frag) : (XK → Hp → VK → Prop) → Hp → VK → Prop := fun tl H Q => tl (toldE K Q) H Q
/-- _law_word(e) in a suite -/
def tWord (K : PySem.W.Frag) (a : Addr) (cls : Value) (d : Option Addr) : TE := fun σ H Q => σ[1]? = some (some (.ref a)) ∧ ∃ c ∈ wnames, cls = .ref (He.ga K c) ∧ (∀ dx, d = some dx → ∃ fs, H dx = some (.xd fs)) ∧ ∀ t H2, Same H H2 → H t = none → H2 t = some (.tup [.str "refused", .str c]) → Q (.ref t) H2
theorem pe_word {X : Cx} {a : Addr} {oe : Obj} {cls : Value} {d : Option Addr} {pn : List (Addr × Obj)} {fd : FuncData} {k : Nat} {q p5 pos : Pos} (F : FnW X.prog X.w X.K X.mg X.base k (He.ga X.K "_law_word") fd ["e"] (spWord X.K)) (b : BindsE fd ["e"]) (kp : PySem.W.keepIn X.K (.ref (He.ga X.K "_law_word")) = true) (hm : X.mg "_law_word" = some (.ref (He.ga X.K "_law_word")))
    (hr : Room k X.A) (hz : L2N.Zn cls d oe) (hf : ∃ vs, oe.data = .fields vs) (he : PE (X.suite a ((a, oe) :: pn)) (.Name "e" q) (tVar 1)) (hg : Gl X "_law_word" := by rfl) (hst : starEach [.Name "e" q] X.env = (false, eval (.Name "e" q) X.env) :: starEach [] X.env := by rfl) :
    PE (X.suite a ((a, oe) :: pn)) (.Call (.Name "_law_word" p5) [.Name "e" q] [] pos) (tWord X.K a cls d) := by
  refine ⟨fun pins s σ H Q I h => ?_⟩
  obtain ⟨h1, c, hc, e, hd, q2⟩ := h
  obtain ⟨ws, hw⟩ := hf
  have hot : Hot1 (X.suite a ((a, oe) :: pn)).A (a, oe) := ⟨rfl, ws, hw, hz.2.2 ws hw⟩
  have P := pe_callW (X := X.suite a ((a, oe) :: pn)) (p := (a, oe)) (q := p5) (pos := pos) F b kp hm ⟨hr.dp, hr.un⟩ hot List.mem_cons_self (pa_cons he pa_nil) hg (by decide) hst (by rfl)
  exact P.run pins s σ H Q I ⟨.ref a, h1, rfl, c, d, hc, by rw [← e]; exact hz.zc, ⟨ws, hw⟩, hd, q2⟩
/-! heaps between told deeds: tables grow -/
/-- all but the dice at a and the tables stays -/
structure ButT (T : List (Addr × Str)) (a : Addr) (H H2 : Hp) : Prop where
  d0 : Dice H a
  d1 : Dice H2 a
  kp : ∀ b o, H b = some o → b ≠ a → (∀ ps, o ≠ .tbl ps) → H2 b = some o
  tb : Tabs T H → Tabs T H2
section
variable {T : List (Addr × Str)} {a : Addr} {H H1 H2 : Hp} {K : PySem.W.Frag}
theorem ButT.refl (d : Dice H a) : ButT T a H H := ⟨d, d, fun _ _ h _ _ => h, fun h => h⟩
theorem ButT.trans (b : ButT T a H H1) (c : ButT T a H1 H2) : ButT T a H H2 := ⟨b.d0, c.d1, fun x o h n m => c.kp x o (b.kp x o h n m) n m, fun h => c.tb (b.tb h)⟩
theorem ext_tabs (s : Same H H1) (h : Tabs T H) : Tabs T H1 := h.ext s
theorem But.tabs (b : But a H H1) (h : Tabs T H) : Tabs T H1 := fun p hp => by
  obtain ⟨x, k, hd⟩ := b.d0
  obtain ⟨ps, h1, h2, h3⟩ := h p hp
  have ne : ∀ z o, H z = some o → (∀ xs, o ≠ .lst xs) → z ≠ a := fun z o e n q => by
    rw [q, hd] at e
    cases e
    exact n _ rfl
  refine ⟨ps, b.kp _ _ h1 (ne _ _ h1 (fun xs z => by cases z)), h2, fun pos cv hc => ?_⟩
  obtain ⟨c, e1, e2⟩ := h3 pos cv hc
  exact ⟨c, e1, b.kp _ _ e2 (ne _ _ e2 (fun xs z => by unfold CodeO at z; cases z))⟩
theorem But.toT (b : But a H H1) : ButT T a H H1 := ⟨b.d0, b.d1, fun x o h n _ => b.kp x o h n, b.tabs⟩
theorem ButT.same (b : ButT T a H H1) (s : Same H1 H2) : ButT T a H H2 := ⟨b.d0, b.d1.same s, fun x o h n m => s _ _ (b.kp x o h n m), fun h => ext_tabs s (b.tb h)⟩
theorem Dice.extN (d : Dice H a) (e : ExtN H H1) : Dice H1 a := by
  obtain ⟨x, k, h⟩ := d
  exact ⟨x, k, e _ _ h fun ps z => by cases z⟩
theorem ButT.extN (b : ButT T a H H1) (e : ExtN H1 H2) (t : Tabs T H2) : ButT T a H H2 := ⟨b.d0, b.d1.extN e, fun x o h n m => e _ _ (b.kp x o h n m) m, fun _ => t⟩
theorem tup_nt {b : Addr} {xs : List V} {H H1 : Hp} (e : ∀ b o, H b = some o → (∀ ps, o ≠ .tbl ps) → (∀ ys, o ≠ .lst ys) → H1 b = some o) (h : SqT K H b xs) : SqT K H1 b xs := by
  rcases h with (h | ⟨o, h⟩) | h
  · exact .inl (.inl (e _ _ h (fun ps z => by cases z) fun ys z => by cases z))
  · exact .inl (.inr ⟨o, e _ _ h (fun ps z => by cases z) fun ys z => by cases z⟩)
  · exact .inr h
mutual
theorem dp_nt {H H1 : Hp} (e : ∀ b o, H b = some o → (∀ ps, o ≠ .tbl ps) → (∀ ys, o ≠ .lst ys) → H1 b = some o) : ∀ {v : V} {d : PyData}, imm d = true → Dp K H v d → Dp K H1 v d
  | _, _, _, .non => .non
  | _, _, _, .bl b => .bl b
  | _, _, _, .int i => .int i
  | _, _, _, .str x => .str x
  | _, _, i, .lst h a => by simp [imm] at i
  | _, _, i, .tup h a => .tup (tup_nt e h) (dps_nt e (by simpa [imm] using i) a)
theorem dps_nt {H H1 : Hp} (e : ∀ b o, H b = some o → (∀ ps, o ≠ .tbl ps) → (∀ ys, o ≠ .lst ys) → H1 b = some o) : ∀ {vs : List V} {ds : List PyData}, immAll ds = true → DpAll K H vs ds → DpAll K H1 vs ds
  | _, _, _, .nil => .nil
  | _, _, i, .cons a b => by
    simp [immAll] at i
    exact .cons (dp_nt e i.1 a) (dps_nt e i.2 b)
end
theorem ButT.nt (b : ButT T a H H1) : ∀ x o, H x = some o → (∀ ps, o ≠ .tbl ps) → (∀ ys, o ≠ .lst ys) → H1 x = some o := fun x o h m n => b.kp x o h (fun z => by
  obtain ⟨y, k, hd⟩ := b.d0
  rw [z, hd] at h
  cases h
  exact n _ rfl) m
theorem ButT.tup {b : Addr} {xs : List V} (s : ButT T a H H1) (h : SqT K H b xs) : SqT K H1 b xs := tup_nt s.nt h
theorem ButT.dp {v : V} {d : PyData} (s : ButT T a H H1) (i : imm d = true) (h : Dp K H v d) : Dp K H1 v d := dp_nt s.nt i h
theorem ButT.dps {vs : List V} {ds : List PyData} (s : ButT T a H H1) (i : immAll ds = true) (h : DpAll K H vs ds) : DpAll K H1 vs ds := dps_nt s.nt i h
theorem ButT.lst {b : Addr} {xs : List V} (s : ButT T a H H1) (n : b ≠ a) (h : H b = some (.lst xs)) : H1 b = some (.lst xs) := s.kp b _ h n fun ps z => by cases z
end
mutual
theorem dp_eN {K : PySem.W.Frag} {H H1 : Hp} (e : ExtN H H1) : ∀ {v : V} {d : PyData}, Dp K H v d → Dp K H1 v d
  | _, _, .non => .non
  | _, _, .bl b => .bl b
  | _, _, .int i => .int i
  | _, _, .str x => .str x
  | _, _, .lst h a => .lst (lst_eN e h) (dps_eN e a)
  | _, _, .tup h a => .tup (tup_nt (fun b o h m _ => e b o h m) h) (dps_eN e a)
theorem dps_eN {K : PySem.W.Frag} {H H1 : Hp} (e : ExtN H H1) : ∀ {vs : List V} {ds : List PyData}, DpAll K H vs ds → DpAll K H1 vs ds
  | _, _, .nil => .nil
  | _, _, .cons a b => .cons (dp_eN e a) (dps_eN e b)
theorem lst_eN {K : PySem.W.Frag} {H H1 : Hp} (e : ExtN H H1) {b : Addr} {xs : List V} (h : SqL K H b xs) : SqL K H1 b xs := by
  rcases h with (h | ⟨o, h⟩) | h
  · exact .inl (.inl (e _ _ h fun ps z => by cases z))
  · exact .inl (.inr ⟨o, e _ _ h fun ps z => by cases z⟩)
  · exact .inr h
end
/-- the rounds, tables growing -/
theorem rounds_goT {T : List (Addr × Str)} {K : PySem.W.Frag} {a L : Addr} {ds : List Addr} {tb : TS} {D : Ends} {H : Hp} {n : Nat} {w0 : List (Option V)} (hw : w0.length = n) (hT : Tabs T H) (hL : H L = some (.lst (ds.map V.ref))) (hds : ∀ d ∈ ds, d ≠ L ∧ Dice H d) (hd : ∀ σ' H', D.nx σ' H')
    (hbody : ∀ (w : List (Option V)) (H' : Hp) (d : Addr) (N : L2.St → Hp → Prop), w.length = n → Tabs T H' → Dice H' d → (∀ (w2 : List (Option V)) (H2 : Hp), w2.length = n → ButT T d H' H2 → N (some (.ref a) :: w2) H2) →
      tb { D with nx := N, ct := N, bk := D.nx } ((some (.ref a) :: w).set 1 (some (.ref d))) H') :
    ForGoal (Itl K L) (gName 1) tb D (some (.ref a) :: w0) H := by
  refine for_go (walk_list (K := K) (a := L) (xs := ds.map V.ref)) (fun i σ H' => (∃ w : List (Option V), w.length = n ∧ σ = some (.ref a) :: w) ∧ H' L = some (.lst (ds.map V.ref)) ∧ (∀ d ∈ ds, Dice H' d) ∧ Tabs T H') ⟨⟨w0, hw, rfl⟩, hL, fun d h => (hds d h).2, hT⟩ (fun i σ H' _ h => lstOf h.2.1) ?_ (fun σ H' _ => hd σ H')
  rintro i x σ H' H'' hi ⟨⟨w, hw', rfl⟩, hL', hds', hT'⟩ ⟨rfl, hx⟩
  rw [List.getElem?_map] at hx
  obtain ⟨d, hd1, rfl⟩ := Option.map_eq_some_iff.mp hx
  have hm := List.mem_of_getElem? hd1
  refine hbody w H'' d _ hw' hT' (hds' d hm) fun w2 H2 hw2 b => ⟨⟨w2, hw2, rfl⟩, b.lst ((hds d hm).1).symm hL', fun e he => ?_, b.tb hT'⟩
  by_cases hed : e = d
  · subst hed
    exact b.d1
  · obtain ⟨x, k, hx⟩ := hds' e he
    exact ⟨x, k, b.lst hed hx⟩
/-! defs that make lambdas -/
def lamQ (x : Str) : Str := x ++ ".<locals>." ++ "<lambda>"
/-- the tables of the defs that make lambdas -/
def tabL (K : PySem.W.Frag) (tf : List Str) : List (Addr × Str) := tf.map fun x => ((He.cT K (x, none)).2, lamQ x)
structure TLs (base : Heap) (mg : Str → Option Value) (K : PySem.W.Frag) (tf : List Str) : Prop where
  tb : ∀ x ∈ tf, TabB base mg (He.cT K (x, none)).1 (He.cT K (x, none)).2
  ap : ∀ x ∈ tf, ∀ y ∈ tf, (He.cT K (y, none)).2 = (He.cT K (x, none)).2 → y = x
def apartB (K : PySem.W.Frag) (tf : List Str) : Bool := tf.all fun x => tf.all fun y => decide (y = x) || !decide ((He.cT K (y, none)).2 = (He.cT K (x, none)).2)
theorem apartB_ok {K : PySem.W.Frag} {tf : List Str} (h : apartB K tf = true) : ∀ x ∈ tf, ∀ y ∈ tf, (He.cT K (y, none)).2 = (He.cT K (x, none)).2 → y = x := fun x hx y hy e => by
  simp only [apartB, List.all_eq_true, Bool.or_eq_true, decide_eq_true_eq, Bool.not_eq_true', decide_eq_false_iff_not] at h
  rcases h x hx y hy with z | z
  · exact z
  · exact absurd e z
def spLawT (K : PySem.W.Frag) (tf : List Str) : Sp := fun vs H Q _ => ∃ (a : Addr) (ns : List Int), vs = [.ref a] ∧ SqL K H a (ns.map V.int) ∧ ns.length ≤ 63 ∧ Tabs (tabL K tf) H ∧ ∀ H', Q (.bl true) H'
section
variable {P : Program} {w : World} {K : PySem.W.Frag} {mg : Str → Option Value} {base : Heap}
theorem Ok.mkL {x : Str} {st : Stmt} {N ps : List Str} {k : Nat} {sp : Sp} (G : mg x = some (.ref (He.ga K x))) (F : FnAt K x st) (b : BindAll x st ps) (S : FnScope N ps (defScope st)) (len : ∀ vs H Q E, sp vs H Q E → vs.length = ps.length)
    (body : ∀ (A : Around) (outer : List Env) (s : Shared) (H : Hp) (vs : List V) (Q : VK) (E : XK), Room k (A.deeper (envOfC x (defScope st) s.heap.objs.size (He.ga K x) (.ref (He.cT K (x, none)).1))) → sp vs H Q E →
      ∃ t, PSs (cxOf (CXN P w) P w K mg base N x (defScope st) (He.ga K x) (.ref (He.cT K (x, none)).1) A outer s H E) (defBody st) t ∧ t { nx := fun _ H' => Q .non H', rt := Q } (start N vs) H) : Ok P w K mg base (k + 1) x ps sp := by
  obtain ⟨fd, F⟩ := F
  have hb := F.bindsA b
  have kp := F.kp
  obtain ⟨oc, od, dV, kV, doc, pm, an, cdv, ct, osl, rfl, lk, hcd, _⟩ := F.ex
  have e : fdAt K (He.ga K x) = some (PySem.W.fnOf x x (defArgs st) (defBody st) (defScope st) dV kV doc pm an cdv ct) := by
    unfold fdAt
    rw [lk]
  obtain ⟨c, rfl⟩ : ∃ c, cdv = .ref c := by
    cases cdv with
    | ref c => exact ⟨c, rfl⟩
    | _ => cases hcd
  have ec : (He.cT K (x, none)).1 = c := He.codeOf_eq (p := (x, none)) lk rfl
  rw [ec] at body
  exact ⟨G, kp, _, e, hb, fn_of lk hcd S len body⟩
end
end RG
/-! ### data that a text writes down: shapes, evaluation -/
namespace RG
open PySem PySem.Spec PyProof.Rows L2 LamX
/-- fit to be compared and walked -/
structure Gd (n : Nat) (d : PyData) : Prop where
  lay : d.canLay0 = true
  dep : d.depth ≤ n
  nar : narrow d = true
structure GdAll (n : Nat) (ds : List PyData) : Prop where
  lay : PyData.canLayAll0 ds = true
  dep : PyData.depthAll ds ≤ n
  nar : narrowAll ds = true
theorem Gd.mono {n m : Nat} {d : PyData} (g : Gd n d) (h : n ≤ m) : Gd m d := ⟨g.lay, Nat.le_trans g.dep h, g.nar⟩
theorem gd_non {n : Nat} : Gd n .none := ⟨rfl, Nat.zero_le _, rfl⟩
theorem gd_int {n : Nat} {i : Int} : Gd n (.int i) := ⟨rfl, Nat.zero_le _, rfl⟩
theorem gd_bool {n : Nat} {b : Bool} : Gd n (.bool b) := ⟨rfl, Nat.zero_le _, rfl⟩
theorem gd_str {n : Nat} {z : Str} (h : PyData.canLay0 (.str z) = true) : Gd n (.str z) := ⟨h, Nat.zero_le _, rfl⟩
theorem gds_nil {n : Nat} : GdAll n [] := ⟨rfl, Nat.zero_le _, rfl⟩
theorem gds_cons {n : Nat} {d : PyData} {ds : List PyData} (a : Gd n d) (b : GdAll n ds) : GdAll n (d :: ds) := ⟨by simp only [PyData.canLayAll0, a.lay, b.lay, Bool.and_self], by simp only [PyData.depthAll]; have := a.dep; have := b.dep; omega, by simp only [narrowAll, a.nar, b.nar, Bool.and_self]⟩
theorem gds_mem {n : Nat} {ds : List PyData} (h : ∀ d ∈ ds, Gd n d) : GdAll n ds := ⟨canLayAll_mem fun d hd => (h d hd).lay, depthAll_le fun d hd => (h d hd).dep, narrowAll_of fun d hd => (h d hd).nar⟩
theorem gd_tup {n : Nat} {ds : List PyData} (h : GdAll n ds) (l : ds.length ≤ 1000) : Gd (n + 1) (.tuple ds) := ⟨h.lay, Nat.succ_le_succ h.dep, by simp only [narrow, h.nar, decide_eq_true l, Bool.and_self]⟩
theorem gd_list {n : Nat} {ds : List PyData} (h : GdAll n ds) (l : ds.length ≤ 1000) : Gd (n + 1) (.list ds) := ⟨h.lay, Nat.succ_le_succ h.dep, by simp only [narrow, h.nar, decide_eq_true l, Bool.and_self]⟩
theorem Gd.all {n : Nat} {ds : List PyData} (g : Gd (n + 1) (.tuple ds)) : GdAll n ds := ⟨g.lay, Nat.le_of_succ_le_succ g.dep, by have := g.nar; simp only [narrow, Bool.and_eq_true] at this; exact this.2⟩
theorem Gd.len {n : Nat} {ds : List PyData} (g : Gd n (.tuple ds)) : ds.length ≤ 1000 := by
  have := g.nar
  simp only [narrow, Bool.and_eq_true, decide_eq_true_eq] at this
  exact this.1
theorem Gd.sh {d : PyData} (g : Gd 64 d) : SeqAt.shaped d = true := by simp only [SeqAt.shaped, g.lay, decide_eq_true g.dep, Bool.and_self]
theorem Gd.ok {d : PyData} (g : Gd 64 d) : okD d = true := by simp only [okD, g.sh, g.nar, Bool.and_self]
theorem all_nil {P : PyData → Prop} : ∀ e ∈ ([] : List PyData), P e := fun _ h => nomatch h
theorem all_cons {P : PyData → Prop} {d : PyData} {ds : List PyData} (h : P d) (t : ∀ e ∈ ds, P e) : ∀ e ∈ d :: ds, P e := fun e he => by
  rcases List.mem_cons.mp he with rfl | he
  · exact h
  · exact t e he
theorem all_consT {P : PyData → Prop} {d : PyData} {ds : List PyData} (t : ∀ e ∈ ds, P e) (h : P d) : ∀ e ∈ d :: ds, P e := all_cons h t
theorem all_app {P : PyData → Prop} {ds es : List PyData} (h : ∀ e ∈ ds, P e) (t : ∀ e ∈ es, P e) : ∀ e ∈ ds ++ es, P e := fun e he => (List.mem_append.mp he).elim (h e) (t e)
theorem all_dp {K : PySem.W.Frag} {H : Hp} {vs : List V} {ds : List PyData} (P : PyData → Prop) (_ : DpAll K H vs ds) (h : ∀ e ∈ ds, P e) : ∀ e ∈ ds, P e := h
theorem all_at {P : PyData → Prop} {ds : List PyData} {i : Nat} {d : PyData} (h : ∀ e ∈ ds, P e) (e : ds[i]? = some d) : P d := h d (List.mem_of_getElem? e)
theorem len_ok {n : Nat} (h : decide (n ≤ 1000) = true) : n ≤ 1000 := of_decide_eq_true h
theorem eqvAll_self : ∀ {l : List PyData}, (∀ d ∈ l, PyData.eqv d d = true) → PyData.eqvAll l l = true
  | [], _ => rfl
  | d :: l, h => by
    have h2 : PyData.eqvAll l l = true := eqvAll_self fun x hx => h x (List.mem_cons_of_mem _ hx)
    simp only [PyData.eqvAll, h d (by simp), h2, Bool.and_self]
theorem eqv_listSelf {l : List PyData} (h : ∀ d ∈ l, PyData.eqv d d = true) : PyData.eqv (.list l) (.list l) = true := by
  simp only [PyData.eqv]
  exact eqvAll_self h
theorem eqv_intsSelf (ns : List Int) : PyData.eqv (.list (ns.map PyData.int)) (.list (ns.map PyData.int)) = true := eqv_listSelf fun d hd => by
  obtain ⟨n, _, rfl⟩ := List.mem_map.mp hd
  simp [PyData.eqv]
/-- evaluated to data, from any heap beyond H0 -/
def EvD (K : PySem.W.Frag) (te : TE) (σ : L2.St) (H0 : Hp) (d : PyData) : Prop := ∀ H, Same H0 H → ∀ Q : VK, (∀ v H2, Same H H2 → Dp K H2 v d → Q v H2) → te σ H Q
def EvDs (K : PySem.W.Frag) (ts : TA) (σ : L2.St) (H0 : Hp) (ds : List PyData) : Prop := ∀ H, Same H0 H → ∀ Q : List V → Hp → Prop, (∀ vs H2, Same H H2 → DpAll K H2 vs ds → Q vs H2) → ts σ H Q
/-- evaluated to a new list of data -/
def EvL (K : PySem.W.Frag) (te : TE) (σ : L2.St) (H0 : Hp) (ds : List PyData) : Prop := ∀ H, Same H0 H → ∀ Q : VK, (∀ p vs H2, Same H H2 → H p = none → H2 p = some (.lst vs) → DpAll K H2 vs ds → Q (.ref p) H2) → te σ H Q
section
variable {K : PySem.W.Frag} {σ : L2.St} {H0 : Hp} {d : PyData} {ds es : List PyData} {te tf : TE} {ts : TA}
theorem evd_non : EvD K (tC .non) σ H0 .none := fun H _ Q q => q _ H (Same.refl _) .non
theorem evd_int {i : Int} : EvD K (tC (.int i)) σ H0 (.int i) := fun H _ Q q => q _ H (Same.refl _) (.int i)
theorem evd_bl {b : Bool} : EvD K (tC (.bl b)) σ H0 (.bool b) := fun H _ Q q => q _ H (Same.refl _) (.bl b)
theorem evd_str {z : Str} : EvD K (tC (.str z)) σ H0 (.str z) := fun H _ Q q => q _ H (Same.refl _) (.str z)
theorem evd_neg {i : Int} : EvD K (tUn (rU fun i => .int (-i)) (tC (.int i))) σ H0 (.int (-i)) := fun H _ Q q => ⟨i, rfl, q _ H (Same.refl _) (.int _)⟩
theorem evd_vint {i : Nat} {n : Int} (e : σ[i]? = some (some (.int n))) : EvD K (tVar i) σ H0 (.int n) := fun H s Q q => ⟨_, e, q _ H (Same.refl _) (.int n)⟩
theorem evd_var {i : Nat} {v : V} (e : σ[i]? = some (some v)) (h : Dp K H0 v d) : EvD K (tVar i) σ H0 d := fun H s Q q => ⟨v, e, q v H (Same.refl _) (dp_s s h)⟩
theorem evds_nil : EvDs K tNil σ H0 [] := fun H _ Q q => q [] H (Same.refl _) .nil
theorem evds_cons (a : EvD K te σ H0 d) (b : EvDs K ts σ H0 ds) : EvDs K (tCons te ts) σ H0 (d :: ds) := fun H s Q q => a H s _ fun v H1 s1 h1 => b H1 (s.trans s1) _ fun vs H2 s2 h2 => q _ H2 (s1.trans s2) (.cons (dp_s s2 h1) h2)
theorem evd_tup (a : EvDs K ts σ H0 ds) (l : ds.length ≤ 1000) : EvD K (tTup ts) σ H0 (.tuple ds) := fun H s Q q => a H s _ fun vs H1 s1 h1 => ⟨sz (by rw [dpAll_len h1]; omega), fun p np => q _ _ (s1.trans (Same.new np)) (.tup (tupOf upd_same) (dps_s (Same.new np) h1))⟩
theorem evd_lst (a : EvDs K ts σ H0 ds) (l : ds.length ≤ 1000) : EvD K (tLst ts) σ H0 (.list ds) := fun H s Q q => a H s _ fun vs H1 s1 h1 => ⟨sz (by rw [dpAll_len h1]; omega), fun p np => q _ _ (s1.trans (Same.new np)) (.lst (lstOf upd_same) (dps_s (Same.new np) h1))⟩
theorem evd_list (a : EvD K te σ H0 (.tuple ds)) : EvD K (tCB (cList K) (tCons te tNil)) σ H0 (.list ds) := fun H s Q q => a H s _ fun v H1 s1 h1 => by
  obtain ⟨b, xs, rfl, hx, hxs⟩ := dp_tuple h1
  exact ⟨b, xs, rfl, .inr hx, fun p np => q _ _ (s1.trans (Same.new np)) (.lst (lstOf upd_same) (dps_s (Same.new np) hxs))⟩
theorem evd_tuple (a : EvL K te σ H0 ds) : EvD K (tCB (cTuple K) (tCons te tNil)) σ H0 (.tuple ds) := fun H s Q q => a H s _ fun p vs H1 s1 _ hp h1 => ⟨p, vs, rfl, .inl ⟨lstOf hp, fun t nt => q _ _ (s1.trans (Same.new nt)) (.tup (tupOf upd_same) (dps_s (Same.new nt) h1))⟩⟩
theorem evl_lst (a : EvDs K ts σ H0 ds) (l : ds.length ≤ 1000) : EvL K (tLst ts) σ H0 ds := fun H s Q q => a H s _ fun vs H1 s1 h1 => ⟨sz (by rw [dpAll_len h1]; omega), fun p np => q p vs _ (s1.trans (Same.new np)) (s1.free np) upd_same (dps_s (Same.new np) h1)⟩
theorem evl_cat {i : Nat} {a : Addr} {xs : List V} (e : σ[i]? = some (some (.ref a))) (ha : H0 a = some (.lst xs)) (hx : DpAll K H0 xs ds) (b : EvL K te σ H0 es) (l : ds.length + es.length ≤ 1000) : EvL K (tOp rCat (tVar i) te) σ H0 (ds ++ es) := fun H s Q q => ⟨.ref a, e, b H s _ fun p vs H1 s1 np hp h1 => by
  refine w_cat (s1 _ _ (s _ _ ha)) hp (by rw [dpAll_len hx, dpAll_len h1]; omega) fun c nc => q c _ _ (s1.trans (Same.new nc)) (s1.free nc) upd_same ?_
  exact dpAll_app (dps_s (Same.new nc) (dps_s s1 (dps_s s hx))) (dps_s (Same.new nc) h1)⟩
theorem evl_catL (a : EvL K te σ H0 ds) (b : EvL K tf σ H0 es) (l : ds.length + es.length ≤ 1000) : EvL K (tOp rCat te tf) σ H0 (ds ++ es) := fun H s Q q => a H s _ fun p vs H1 s1 np hp h1 => b H1 (s.trans s1) _ fun p2 vs2 H2 s2 np2 hp2 h2 => by
  refine w_cat (s2 _ _ hp) hp2 (by rw [dpAll_len h1, dpAll_len h2]; omega) fun c nc => q c _ _ ((s1.trans s2).trans (Same.new nc)) (s1.free (s2.free nc)) upd_same ?_
  exact dpAll_app (dps_s (Same.new nc) (dps_s s2 h1)) (dps_s (Same.new nc) h2)
theorem dpAll_rep {H : Hp} {vs : List V} (h : DpAll K H vs ds) : ∀ n : Nat, DpAll K H (List.replicate n vs).flatten (List.replicate n ds).flatten
  | 0 => .nil
  | n + 1 => by
    rw [List.replicate_succ, List.replicate_succ, List.flatten_cons, List.flatten_cons]
    exact dpAll_app h (dpAll_rep h n)
theorem evl_rep {m : Int} {n : Nat} (hm : m = (n : Int)) (a : EvL K te σ H0 ds) (l : ds.length * n ≤ 1000) (hn : n ≤ 1000) : EvL K (tOp rRep te (tC (.int m))) σ H0 (List.replicate n ds).flatten := fun H s Q q => a H s _ fun p vs H1 s1 np hp h1 => by
  subst hm
  refine ⟨p, (n : Nat), vs, rfl, rfl, hp, by omega, by omega, sz (by rw [Int.toNat_natCast, dpAll_len h1]; omega), fun c nc => ?_⟩
  rw [Int.toNat_natCast]
  refine q c _ _ (s1.trans (Same.new nc)) (s1.free nc) upd_same ?_
  exact dpAll_rep (dps_s (Same.new nc) h1) n
theorem evd_ofL (a : EvL K te σ H0 ds) : EvD K te σ H0 (.list ds) := fun H s Q q => a H s _ fun p vs H1 s1 _ hp h1 => q _ _ s1 (.lst (lstOf hp) h1)
theorem evl_list (a : EvD K te σ H0 (.tuple ds)) : EvL K (tCB (cList K) (tCons te tNil)) σ H0 ds := fun H s Q q => a H s _ fun v H1 s1 h1 => by
  obtain ⟨b, xs, rfl, hx, hxs⟩ := dp_tuple h1
  exact ⟨b, xs, rfl, .inr hx, fun p np => q p xs _ (s1.trans (Same.new np)) (s1.free np) upd_same (dps_s (Same.new np) hxs)⟩
theorem evd_repT {m : Int} {n : Nat} (hm : m = (n : Int)) (a : EvD K te σ H0 (.tuple ds)) (h2 : 2 ≤ n) (hn : n ≤ 1000) (l0 : ds ≠ []) (l : ds.length ≤ 1000) : EvD K (tOp (rRepT K) te (tC (.int m))) σ H0 (.tuple (List.replicate n ds).flatten) := fun H s Q q => a H s _ fun v H1 s1 h1 => by
  subst hm
  obtain ⟨b, xs, rfl, hx, hxs⟩ := dp_tuple h1
  have hl := dpAll_len hxs
  refine ⟨b, (n : Nat), xs, rfl, rfl, hx, fun z => l0 (by rw [z] at hl; exact List.eq_nil_of_length_eq_zero hl.symm), by omega, by omega, by omega, fun p np => ?_⟩
  rw [Int.toNat_natCast]
  exact q _ _ (s1.trans (Same.new np)) (.tup (tupOf upd_same) (dpAll_rep (dps_s (Same.new np) hxs) n))
theorem evd_use {H : Hp} {Q : VK} (a : EvD K te σ H d) (q : ∀ v H2, Same H H2 → Dp K H2 v d → Q v H2) : te σ H Q := a H (Same.refl _) Q q
theorem evl_use {H : Hp} {Q : VK} (a : EvL K te σ H ds) (q : ∀ p vs H2, Same H H2 → H p = none → H2 p = some (.lst vs) → DpAll K H2 vs ds → Q (.ref p) H2) : te σ H Q := a H (Same.refl _) Q q
/-- tables grow, all else stays -/
structure ExT (T : List (Addr × Str)) (H H2 : Hp) : Prop where
  ex : ExtN H H2
  tb : Tabs T H2
theorem ExT.same {T : List (Addr × Str)} {H H1 H2 : Hp} (a : ExT T H H1) (s : Same H1 H2) : ExT T H H2 := ⟨a.ex.trans (ExtN.of s), ext_tabs s a.tb⟩
theorem ExT.trans {T : List (Addr × Str)} {H H1 H2 : Hp} (a : ExT T H H1) (b : ExT T H1 H2) : ExT T H H2 := ⟨a.ex.trans b.ex, b.tb⟩
theorem ExT.refl {T : List (Addr × Str)} {H : Hp} (t : Tabs T H) : ExT T H H := ⟨ExtN.refl H, t⟩
/-- nothing but a table stands there -/
def NwT (H : Hp) (p : Addr) : Prop := ∀ u, H p = some u → ∃ ps, u = .tbl ps
theorem ExT.nw {T : List (Addr × Str)} {H H1 : Hp} {p : Addr} (a : ExT T H H1) (h : H1 p = none) : NwT H p := fun u e => Classical.byContradiction fun z => by
  rw [a.ex p u e fun ps w => z ⟨ps, w⟩] at h
  cases h
/-- a change of a list that H does not know -/
theorem ExT.mut {T : List (Addr × Str)} {H H1 : Hp} {p : Addr} {o : HO} {xs : List V} (a : ExT T H H1) (h : NwT H p) (hp : H1 p = some (.lst xs)) : ExT T H (upd H1 p o) := by
  refine ⟨fun b u e n => by rw [upd_ne (fun z => by obtain ⟨ps, w⟩ := h u (by rw [← z]; exact e); exact n ps w)]; exact a.ex b u e n, fun q hq => ?_⟩
  obtain ⟨ps, h1, h2, h3⟩ := a.tb q hq
  have ne : ∀ z u, H1 z = some u → (∀ xs, u ≠ .lst xs) → z ≠ p := fun z u e n w => by
    rw [w, hp] at e
    cases e
    exact n _ rfl
  refine ⟨ps, by rw [upd_ne (ne _ _ h1 fun xs z => by cases z)]; exact h1, h2, fun pos cv hc => ?_⟩
  obtain ⟨c, e1, e2⟩ := h3 pos cv hc
  exact ⟨c, e1, by rw [upd_ne (ne _ _ e2 fun xs z => by unfold CodeO at z; cases z)]; exact e2⟩
theorem ButT.exT {T : List (Addr × Str)} {a : Addr} {H H1 H2 : Hp} (b : ButT T a H H1) (e : ExT T H1 H2) : ButT T a H H2 := b.extN e.ex e.tb
/-- a told deed -/
theorem w_lam {T : List (Addr × Str)} {t : XK → TE} {H : Hp} {Q : VK} (hT : Tabs T H) (h : ∀ H1, ExT T H H1 → t (toldE K Q) σ H1 Q) : tLam T (toldT K) t σ H Q := ⟨hT, fun H1 e t1 => h H1 ⟨e, t1⟩⟩
theorem told_no {c : Str} {H : Hp} {Q : VK} (hc : c ∈ wnames) (hn : c ≠ "Needed") (h : ∀ t H2, Same H H2 → H t = none → H2 t = some (.tup [.str "refused", .str c]) → Q (.ref t) H2) : toldE K Q (.ref (He.ga K c)) none H := ⟨c, hc, rfl, .inl ⟨hn, rfl, h⟩⟩
abbrev refD (c : Str) : PyData := .tuple [.str "refused", .str c]
theorem refD_dp {c : Str} {H : Hp} {t : Addr} (h : H t = some (.tup [.str "refused", .str c])) : Dp K H (.ref t) (refD c) := .tup (tupOf h) (.cons (.str _) (.cons (.str _) .nil))
/-- a list of what was told, newer than H0 -/
structure Fnd (K : PySem.W.Frag) (T : List (Addr × Str)) (H0 : Hp) (F : Addr) (cs : List PyData) (H : Hp) : Prop where
  ex : ExT T H0 H
  nw : NwT H0 F
  is : ∃ xs, H F = some (.lst xs) ∧ DpAll K H xs cs
  im : immAll cs = true
theorem dps_eT {T : List (Addr × Str)} {H H1 : Hp} {vs : List V} (e : ExT T H H1) (h : DpAll K H vs ds) : DpAll K H1 vs ds := dps_eN e.ex h
theorem dp_eT {T : List (Addr × Str)} {H H1 : Hp} {v : V} (e : ExT T H H1) (h : Dp K H v d) : Dp K H1 v d := dp_eN e.ex h
theorem lst_eT {T : List (Addr × Str)} {H H1 : Hp} {a : Addr} {xs : List V} (e : ExT T H H1) (h : H a = some (.lst xs)) : H1 a = some (.lst xs) := e.ex _ _ h fun ps z => by cases z
theorem tup_eT {T : List (Addr × Str)} {H H1 : Hp} {a : Addr} {xs : List V} (e : ExT T H H1) (h : SqT K H a xs) : SqT K H1 a xs := tup_nt (fun b o h m _ => e.ex b o h m) h
/-- found = [x] -/
theorem fnd_new {T : List (Addr × Str)} {H0 H : Hp} {v : V} {Q : VK} (e : ExT T H0 H) (hv : Dp K H v d) (hi : imm d = true) (q : ∀ F H2, Fnd K T H0 F [d] H2 → Same H H2 → Q (.ref F) H2) : NewL [v] H Q :=
  w_newL (by simp) fun F H2 s nF hF => q F H2 ⟨e.same s, e.nw nF, ⟨_, hF, .cons (dp_s s hv) .nil⟩, by simp [immAll, hi]⟩ s
/-- found.append(x) -/
theorem fnd_app {T : List (Addr × Str)} {H0 H1 H : Hp} {F : Addr} {v : V} {cs : List PyData} {Q : VK} (f : Fnd K T H0 F cs H1) (e : ExT T H1 H) (hv : Dp K H v d) (hi : imm d = true) (hl : cs.length < 1000) (q : ∀ H2, Fnd K T H0 F (cs ++ [d]) H2 → Q .non H2) : rAppend (.ref F) [v] H Q := by
  obtain ⟨xs, hF, hx⟩ := f.is
  have hF2 := lst_eT e hF
  have hx2 := dps_eT e hx
  have him : immAll (cs ++ [d]) = true := by
    rw [immAll_app, f.im]
    simp [immAll, hi]
  refine w_app hF2 (by rw [dpAll_len hx]; omega) (q _ ⟨(f.ex.trans e).mut f.nw hF2, f.nw, ⟨_, upd_same, ?_⟩, him⟩)
  exact dpAll_mut hF2 him (dpAll_app hx2 (.cons hv .nil))
theorem Fnd.ty {T : List (Addr × Str)} {H0 H : Hp} {F : Addr} {cs : List PyData} (f : Fnd K T H0 F cs H) : tyV K "list" (.ref F) H := by
  obtain ⟨xs, hF, _⟩ := f.is
  exact tyL hF
theorem Fnd.dp {T : List (Addr × Str)} {H0 H : Hp} {F : Addr} {cs : List PyData} (f : Fnd K T H0 F cs H) : Dp K H (.ref F) (.list cs) := by
  obtain ⟨xs, hF, hx⟩ := f.is
  exact .lst (lstOf hF) hx
/-- [e for x in range(n)] -/
theorem evl_rng {m : Int} {n i : Nat} {vs : List Nat} {f : Nat → PyData} (hm : m = (n : Int)) (hn : n ≤ 1000) (him : ∀ j, imm (f j) = true) (hw : ∀ j : Nat, wipe ((wipe σ vs).set i (some (.int (0 + (j : Int))))) vs = wipe σ vs) (he : ∀ j : Nat, EvD K te ((wipe σ vs).set i (some (.int (0 + (j : Int))))) H0 (f j)) :
    EvL K (tLc (iRng1 (tCons (tC (.int m)) tNil)) (gName i) tYes te vs) σ H0 ((List.range n).map f) := fun H s Q q => by
  subst hm
  refine w_lc ⟨(n : Nat), rfl, by omega, by omega, ?_⟩
  rw [Int.toNat_natCast]
  refine lc_data (K := K) walk_range (by omega) ((List.range n).map fun j => [f j]) (by simp) (fun _ _ => trivial) ?_ ?_
  · rintro D j acc x H1 H2 hD hj hacc hH1 iv ⟨rfl, rfl⟩
    refine ⟨hw j, ?_⟩
    refine w_yes (if_t rfl (he j _ (s.trans iv.1) _ fun v H3 s3 hv => ?_))
    refine lcd_nx hD (by omega) hacc hH1 iv s3 hv ?_ ?_
    · rw [flat_oneD f]
      refine immAll_mem fun d hd => ?_
      obtain ⟨j, _, rfl⟩ := List.mem_map.mp hd
      exact him j
    · rw [List.getElem?_map, List.getElem?_range hj]
      rfl
  · intro D acc H1 hD s1 hD1 hacc
    rw [flat_oneD f] at hacc
    exact q D acc H1 s1 hD hD1 hacc
end
end RG
/-! ### data that outlive changes of some lists (the dice, things that grow): no list of them is one of those -/
namespace RG
open PySem PySem.Spec PyProof.Rows L2 LamX
/-- lists stand at A -/
def LsA (A : Addr → Prop) (H : Hp) : Prop := ∀ b, A b → ∃ xs, H b = some (.lst xs)
/-- all but what stands at A, and tables, stays -/
def KpB (A : Addr → Prop) (H H2 : Hp) : Prop := ∀ b o, H b = some o → ¬ A b → (∀ ps, o ≠ .tbl ps) → H2 b = some o
mutual
inductive KD (K : PySem.W.Frag) (A : Addr → Prop) (H : Hp) : V → PyData → Prop
  | non : KD K A H .non .none
  | bl (b : Bool) : KD K A H (.bl b) (.bool b)
  | int (i : Int) : KD K A H (.int i) (.int i)
  | str (z : Str) : KD K A H (.str z) (.str z)
  | lst {b : Addr} {vs : List V} {ds : List PyData} (n : ¬ A b) (h : SqL K H b vs) (t : KDs K A H vs ds) : KD K A H (.ref b) (.list ds)
  | tup {b : Addr} {vs : List V} {ds : List PyData} (h : SqT K H b vs) (t : KDs K A H vs ds) : KD K A H (.ref b) (.tuple ds)
inductive KDs (K : PySem.W.Frag) (A : Addr → Prop) (H : Hp) : List V → List PyData → Prop
  | nil : KDs K A H [] []
  | cons {v : V} {vs : List V} {d : PyData} {ds : List PyData} (h : KD K A H v d) (t : KDs K A H vs ds) : KDs K A H (v :: vs) (d :: ds)
end
section
variable {K : PySem.W.Frag} {A : Addr → Prop} {H H1 H2 : Hp}
theorem KpB.refl : KpB A H H := fun _ _ h _ _ => h
theorem KpB.trans (x : KpB A H H1) (y : KpB A H1 H2) : KpB A H H2 := fun b o h n m => y b o (x b o h n m) n m
theorem kpb_same (s : Same H H1) : KpB A H H1 := fun b o h _ _ => s b o h
theorem kpb_butT {T : List (Addr × Str)} {a : Addr} (s : ButT T a H H1) (ha : A a) : KpB A H H1 := fun b o h n m => s.kp b o h (fun z => n (by rw [z]; exact ha)) m
theorem kpb_but {a : Addr} (s : But a H H1) (ha : A a) : KpB A H H1 := fun b o h n _ => s.kp b o h fun z => n (by rw [z]; exact ha)
theorem LsA.same (l : LsA A H) (s : Same H H1) : LsA A H1 := fun b hb => by
  obtain ⟨xs, h⟩ := l b hb
  exact ⟨xs, s _ _ h⟩
theorem LsA.ne (l : LsA A H) {p : Addr} (h : H p = none) : ¬ A p := fun hp => by
  obtain ⟨xs, e⟩ := l p hp
  rw [h] at e
  cases e
theorem kpb_exT {T : List (Addr × Str)} (s : ExT T H H1) : KpB A H H1 := fun b o h _ m => s.ex b o h m
/-- a change of a list that H does not know -/
theorem KpB.mut {p : Addr} {o : HO} (x : KpB A H H1) (n : NwT H p) : KpB A H (upd H1 p o) := fun b u h nb m => by
  rw [upd_ne (fun z => by obtain ⟨ps, w⟩ := n u (by rw [← z]; exact h); exact m ps w)]
  exact x b u h nb m
theorem kpb_sqL {b : Addr} {xs : List V} (s : KpB A H H1) (n : ¬ A b) (h : SqL K H b xs) : SqL K H1 b xs := by
  rcases h with (h | ⟨o, h⟩) | h
  · exact .inl (.inl (s _ _ h n fun ps z => by cases z))
  · exact .inl (.inr ⟨o, s _ _ h n fun ps z => by cases z⟩)
  · exact .inr h
theorem kpb_sqT {b : Addr} {xs : List V} (s : KpB A H H1) (hd : LsA A H) (h : SqT K H b xs) : SqT K H1 b xs := by
  rcases h with (h | ⟨o, h⟩) | h
  · exact .inl (.inl (s _ _ h (fun z => by obtain ⟨xs, e⟩ := hd b z; rw [e] at h; cases h) fun ps z => by cases z))
  · exact .inl (.inr ⟨o, s _ _ h (fun z => by obtain ⟨xs, e⟩ := hd b z; rw [e] at h; cases h) fun ps z => by cases z⟩)
  · exact .inr h
mutual
theorem KD.mono (s : KpB A H H1) (hd : LsA A H) : ∀ {v : V} {d : PyData}, KD K A H v d → KD K A H1 v d
  | _, _, .non => .non
  | _, _, .bl b => .bl b
  | _, _, .int i => .int i
  | _, _, .str z => .str z
  | _, _, .lst n h t => .lst n (kpb_sqL s n h) (KDs.mono s hd t)
  | _, _, .tup h t => .tup (kpb_sqT s hd h) (KDs.mono s hd t)
theorem KDs.mono (s : KpB A H H1) (hd : LsA A H) : ∀ {vs : List V} {ds : List PyData}, KDs K A H vs ds → KDs K A H1 vs ds
  | _, _, .nil => .nil
  | _, _, .cons h t => .cons (KD.mono s hd h) (KDs.mono s hd t)
end
mutual
theorem KD.dp : ∀ {v : V} {d : PyData}, KD K A H v d → Dp K H v d
  | _, _, .non => .non
  | _, _, .bl b => .bl b
  | _, _, .int i => .int i
  | _, _, .str z => .str z
  | _, _, .lst n h t => .lst h (KDs.dp t)
  | _, _, .tup h t => .tup h (KDs.dp t)
theorem KDs.dp : ∀ {vs : List V} {ds : List PyData}, KDs K A H vs ds → DpAll K H vs ds
  | _, _, .nil => .nil
  | _, _, .cons h t => .cons (KD.dp h) (KDs.dp t)
end
mutual
theorem kdv_imm : ∀ {v : V} {d : PyData}, imm d = true → Dp K H v d → KD K A H v d
  | _, _, _, .non => .non
  | _, _, _, .bl b => .bl b
  | _, _, _, .int i => .int i
  | _, _, _, .str x => .str x
  | _, _, i, .lst h t => by simp [imm] at i
  | _, _, i, .tup h t => .tup h (kdvs_imm (by simpa [imm] using i) t)
theorem kdvs_imm : ∀ {vs : List V} {ds : List PyData}, immAll ds = true → DpAll K H vs ds → KDs K A H vs ds
  | _, _, _, .nil => .nil
  | _, _, i, .cons h t => by
    simp [immAll] at i
    exact .cons (kdv_imm i.1 h) (kdvs_imm i.2 t)
end
theorem KDs.len : ∀ {vs : List V} {ds : List PyData}, KDs K A H vs ds → vs.length = ds.length
  | _, _, .nil => rfl
  | _, _, .cons _ t => by simp [KDs.len t]
theorem KDs.app : ∀ {vs us : List V} {ds es : List PyData}, KDs K A H vs ds → KDs K A H us es → KDs K A H (vs ++ us) (ds ++ es)
  | _, _, _, _, .nil, h => h
  | _, _, _, _, .cons x t, h => .cons x (KDs.app t h)
theorem KDs.getV : ∀ {vs : List V} {ds : List PyData} {i : Nat} {v : V}, KDs K A H vs ds → vs[i]? = some v → ∃ d, ds[i]? = some d ∧ KD K A H v d
  | _, _, _, _, .nil, e => by simp at e
  | _, _, 0, _, .cons x _, e => by
    simp at e
    subst e
    exact ⟨_, rfl, x⟩
  | _, _, i + 1, v, .cons _ t, e => by
    obtain ⟨d, h1, h2⟩ := KDs.getV (i := i) t (by simpa using e)
    exact ⟨d, by simpa using h1, h2⟩
end
theorem tabs_mut {T : List (Addr × Str)} {H : Hp} {p : Addr} {o : HO} {xs : List V} (t : Tabs T H) (hp : H p = some (.lst xs)) : Tabs T (upd H p o) := fun q hq => by
  obtain ⟨ps, h1, h2, h3⟩ := t q hq
  have ne : ∀ z u, H z = some u → (∀ xs, u ≠ .lst xs) → z ≠ p := fun z u e n w => by
    rw [w, hp] at e
    cases e
    exact n _ rfl
  refine ⟨ps, by rw [upd_ne (ne _ _ h1 fun xs z => by cases z)]; exact h1, h2, fun pos cv hc => ?_⟩
  obtain ⟨c, e1, e2⟩ := h3 pos cv hc
  exact ⟨c, e1, by rw [upd_ne (ne _ _ e2 fun xs z => by unfold CodeO at z; cases z)]; exact e2⟩
/-- evaluated to such data -/
def EvK (K : PySem.W.Frag) (A : Addr → Prop) (te : TE) (σ : L2.St) (H0 : Hp) (d : PyData) : Prop := ∀ H, Same H0 H → ∀ Q : VK, (∀ v H2, Same H H2 → KD K A H2 v d → Q v H2) → te σ H Q
def EvKs (K : PySem.W.Frag) (A : Addr → Prop) (ts : TA) (σ : L2.St) (H0 : Hp) (ds : List PyData) : Prop := ∀ H, Same H0 H → ∀ Q : List V → Hp → Prop, (∀ vs H2, Same H H2 → KDs K A H2 vs ds → Q vs H2) → ts σ H Q
def EvKL (K : PySem.W.Frag) (A : Addr → Prop) (te : TE) (σ : L2.St) (H0 : Hp) (ds : List PyData) : Prop := ∀ H, Same H0 H → ∀ Q : VK, (∀ p vs H1 H2, Same H H1 → Same H1 H2 → H1 p = none → H2 p = some (.lst vs) → KDs K A H1 vs ds → Q (.ref p) H2) → te σ H Q
section
variable {K : PySem.W.Frag} {A : Addr → Prop} {σ : L2.St} {H0 : Hp} {d : PyData} {ds es : List PyData} {te tf : TE} {ts : TA}
theorem evk_non : EvK K A (tC .non) σ H0 .none := fun H _ Q q => q _ H (Same.refl _) .non
theorem evk_int {i : Int} : EvK K A (tC (.int i)) σ H0 (.int i) := fun H _ Q q => q _ H (Same.refl _) (.int i)
theorem evk_bl {b : Bool} : EvK K A (tC (.bl b)) σ H0 (.bool b) := fun H _ Q q => q _ H (Same.refl _) (.bl b)
theorem evk_str {z : Str} : EvK K A (tC (.str z)) σ H0 (.str z) := fun H _ Q q => q _ H (Same.refl _) (.str z)
theorem evk_neg {i : Int} : EvK K A (tUn (rU fun i => .int (-i)) (tC (.int i))) σ H0 (.int (-i)) := fun H _ Q q => ⟨i, rfl, q _ H (Same.refl _) (.int _)⟩
theorem evk_vint {i : Nat} {n : Int} (e : σ[i]? = some (some (.int n))) : EvK K A (tVar i) σ H0 (.int n) := fun H s Q q => ⟨_, e, q _ H (Same.refl _) (.int n)⟩
theorem evk_var {i : Nat} {v : V} (e : σ[i]? = some (some v)) (hd : LsA A H0) (h : KD K A H0 v d) : EvK K A (tVar i) σ H0 d := fun H s Q q => ⟨v, e, q v H (Same.refl _) (h.mono (kpb_same s) hd)⟩
theorem evks_nil : EvKs K A tNil σ H0 [] := fun H _ Q q => q [] H (Same.refl _) .nil
theorem evks_cons (hd : LsA A H0) (x : EvK K A te σ H0 d) (y : EvKs K A ts σ H0 ds) : EvKs K A (tCons te ts) σ H0 (d :: ds) := fun H s Q q => x H s _ fun v H1 s1 h1 => y H1 (s.trans s1) _ fun vs H2 s2 h2 => q _ H2 (s1.trans s2) (.cons (h1.mono (kpb_same s2) (hd.same (s.trans s1))) h2)
theorem evk_tup (hd : LsA A H0) (x : EvKs K A ts σ H0 ds) (l : ds.length ≤ 1000) : EvK K A (tTup ts) σ H0 (.tuple ds) := fun H s Q q => x H s _ fun vs H1 s1 h1 => ⟨sz (by rw [h1.len]; omega), fun p np => q _ _ (s1.trans (Same.new np)) (.tup (tupOf upd_same) (h1.mono (kpb_same (Same.new np)) (hd.same (s.trans s1))))⟩
theorem evk_lst (hd : LsA A H0) (x : EvKs K A ts σ H0 ds) (l : ds.length ≤ 1000) : EvK K A (tLst ts) σ H0 (.list ds) := fun H s Q q => x H s _ fun vs H1 s1 h1 => ⟨sz (by rw [h1.len]; omega), fun p np => q _ _ (s1.trans (Same.new np)) (.lst ((hd.same (s.trans s1)).ne np) (lstOf upd_same) (h1.mono (kpb_same (Same.new np)) (hd.same (s.trans s1))))⟩
theorem evk_list (hd : LsA A H0) (x : EvK K A te σ H0 (.tuple ds)) : EvK K A (tCB (cList K) (tCons te tNil)) σ H0 (.list ds) := fun H s Q q => x H s _ fun v H1 s1 h1 => by
  cases h1 with
  | tup h t => exact ⟨_, _, rfl, .inr h, fun p np => q _ _ (s1.trans (Same.new np)) (.lst ((hd.same (s.trans s1)).ne np) (lstOf upd_same) (t.mono (kpb_same (Same.new np)) (hd.same (s.trans s1))))⟩
theorem evkl_lst (x : EvKs K A ts σ H0 ds) (l : ds.length ≤ 1000) : EvKL K A (tLst ts) σ H0 ds := fun H s Q q => x H s _ fun vs H1 s1 h1 => ⟨sz (by rw [h1.len]; omega), fun p np => q p vs H1 _ s1 (Same.new np) np upd_same h1⟩
theorem evkl_cat {i : Nat} {b : Addr} {xs : List V} (hd : LsA A H0) (e : σ[i]? = some (some (.ref b))) (hb : H0 b = some (.lst xs)) (hx : KDs K A H0 xs ds) (y : EvKL K A te σ H0 es) (l : ds.length + es.length ≤ 1000) : EvKL K A (tOp rCat (tVar i) te) σ H0 (ds ++ es) := fun H s Q q => ⟨.ref b, e, y H s _ fun p vs H1 H2 s1 s2 np hp h1 => by
  refine w_cat (s2 _ _ (s1 _ _ (s _ _ hb))) hp (by rw [hx.len, h1.len]; omega) fun c nc => q c _ H2 _ (s1.trans s2) (Same.new nc) nc upd_same ?_
  exact (hx.mono (kpb_same ((s.trans s1).trans s2)) hd).app (h1.mono (kpb_same s2) (hd.same (s.trans s1)))⟩
theorem evkl_use {H : Hp} {Q : VK} (x : EvKL K A te σ H ds) (q : ∀ p vs H1 H2, Same H H1 → Same H1 H2 → H1 p = none → H2 p = some (.lst vs) → KDs K A H1 vs ds → Q (.ref p) H2) : te σ H Q := x H (Same.refl _) Q q
theorem evk_use {H : Hp} {Q : VK} (x : EvK K A te σ H d) (q : ∀ v H2, Same H H2 → KD K A H2 v d → Q v H2) : te σ H Q := x H (Same.refl _) Q q
theorem kds_rep {H : Hp} {vs : List V} (h : KDs K A H vs ds) : ∀ n : Nat, KDs K A H (List.replicate n vs).flatten (List.replicate n ds).flatten
  | 0 => .nil
  | n + 1 => by
    rw [List.replicate_succ, List.replicate_succ, List.flatten_cons, List.flatten_cons]
    exact h.app (kds_rep h n)
/-- (..) * n and (..) + (..) -/
theorem evk_repT {m : Int} {n : Nat} (hm : m = (n : Int)) (hd : LsA A H0) (x : EvK K A te σ H0 (.tuple ds)) (h2 : 2 ≤ n) (hn : n ≤ 1000) (l0 : ds ≠ []) (l : ds.length ≤ 1000) : EvK K A (tOp (rRepT K) te (tC (.int m))) σ H0 (.tuple (List.replicate n ds).flatten) := fun H s Q q => x H s _ fun v H1 s1 h1 => by
  subst hm
  cases h1 with
  | tup hx hxs =>
  have hl := hxs.len
  refine ⟨_, (n : Nat), _, rfl, rfl, hx, fun z => l0 (by rw [z] at hl; exact List.eq_nil_of_length_eq_zero hl.symm), by omega, by omega, by omega, fun p np => ?_⟩
  rw [Int.toNat_natCast]
  exact q _ _ (s1.trans (Same.new np)) (.tup (tupOf upd_same) (kds_rep (hxs.mono (kpb_same (Same.new np)) (hd.same (s.trans s1))) n))
theorem evk_catT (hd : LsA A H0) (x : EvK K A te σ H0 (.tuple ds)) (y : EvK K A tf σ H0 (.tuple es)) (l0 : ds ≠ []) (m0 : es ≠ []) (l : ds.length + es.length ≤ 1000) : EvK K A (tOp (rCatT K) te tf) σ H0 (.tuple (ds ++ es)) := fun H s Q q => x H s _ fun v H1 s1 h1 => y H1 (s.trans s1) _ fun w H2 s2 h2 => by
  cases h1 with
  | tup hx hxs =>
  cases h2 with
  | tup hy hys =>
  have l1 := hxs.len
  have l2 := hys.len
  refine ⟨_, _, _, _, rfl, rfl, tup_s s2 hx, hy, fun z => l0 (by rw [z] at l1; exact List.eq_nil_of_length_eq_zero l1.symm), sz (by omega), fun z => absurd (by rw [z] at l2; exact List.eq_nil_of_length_eq_zero l2.symm) m0, fun _ p np => ?_⟩
  have hd2 := hd.same ((s.trans s1).trans s2)
  exact q _ _ ((s1.trans s2).trans (Same.new np)) (.tup (tupOf upd_same) (((hxs.mono (kpb_same s2) (hd.same (s.trans s1))).mono (kpb_same (Same.new np)) hd2).app (hys.mono (kpb_same (Same.new np)) hd2)))
end
end RG
/-! ### dicts: readings step by step -/
namespace RG
open PySem PySem.Spec PyProof.Rows L2
theorem hu1 {k : Nat} {A : Around} (hr : Room k A) : A.units + 1 < cLine := by
  have := hr.un
  omega
/-- d[y]; y in d; d.get(y, z); by values -/
def rDGet : V → V → Hp → VK → Prop := fun x y H Q => ∃ a v, x = .ref a ∧ DGet H a y (some v) ∧ Q v H
def rDIn (neg : Bool) : V → V → Hp → VK → Prop := fun x y H Q => ∃ a o, x = .ref a ∧ DGet H a y o ∧ Q (.bl (if neg then !o.isSome else o.isSome)) H
def rDPut : V → V → V → Hp → (Hp → Prop) → Prop := fun x y v H N => ∃ a H4, x = .ref a ∧ DPut H a y v H4 ∧ N H4
section
variable {K : PySem.W.Frag} {σ : L2.St} {H : Hp} {D : Ends} {td ty tx te : TE} {Q : VK} {a : Addr} {ts : TS}
theorem w_dget (h : td σ H fun x H1 => ty σ H1 fun y H2 => rDGet x y H2 Q) : tDGet td ty σ H Q := h
theorem w_din (h : ty σ H fun y H1 => td σ H1 fun x H2 => rDIn false x y H2 Q) : tDIn ty td σ H Q := h
theorem w_dnotin (h : ty σ H fun y H1 => td σ H1 fun x H2 => rDIn true x y H2 Q) : tDNotIn ty td σ H Q := h
theorem w_dput (h : te σ H fun v H1 => td σ H1 fun x H2 => ty σ H2 fun y H3 => rDPut x y v H3 fun H4 => D.nx σ H4) : sDPut td ty te D σ H := h
theorem w_dnewK (h : ∀ p H2, Same H H2 → H p = none → H2 p = some (.dK []) → Q (.ref p) H2) : tDNewK σ H Q := fun p np => h p _ (Same.new np) np upd_same
theorem w_dnewT (h : ∀ p H2, Same H H2 → H p = none → H2 p = some (.dT []) → Q (.ref p) H2) : tDNewT σ H Q := fun p np => h p _ (Same.new np) np upd_same
theorem a_dgetK {kvs : List (Key × V)} {k : Key} {v : V} (e : Rd H a (.dK kvs)) (hv : valV kvs k = some v) (q : Q v H) : rDGet (.ref a) (kV k) H Q := ⟨a, v, rfl, .inl ⟨kvs, k, e, rfl, hv.symm⟩, q⟩
theorem a_dgetS {kvs : List (Key × V)} {z : Str} {v : V} (e : Rd H a (.dK kvs)) (hv : valV kvs (.inr z) = some v) (q : Q v H) : rDGet (.ref a) (.str z) H Q := a_dgetK (k := .inr z) e hv q
theorem a_dgetT {kvs : List (List Key × V)} {k : List Key} {v : V} {b : Addr} (e : Rd H a (.dT kvs)) (eb : H b = some (.tup (k.map kV))) (hv : valV kvs k = some v) (q : Q v H) : rDGet (.ref a) (.ref b) H Q := ⟨a, v, rfl, .inr ⟨kvs, k, b, e, rfl, eb, hv.symm⟩, q⟩
theorem a_dinS {kvs : List (Key × V)} {z : Str} (e : Rd H a (.dK kvs)) (q : Q (.bl (valV kvs (.inr z)).isSome) H) : rDIn false (.ref a) (.str z) H Q := ⟨a, _, rfl, .inl ⟨kvs, .inr z, e, rfl, rfl⟩, q⟩
theorem a_dnotinS {kvs : List (Key × V)} {z : Str} (e : Rd H a (.dK kvs)) (q : Q (.bl (!(valV kvs (.inr z)).isSome)) H) : rDIn true (.ref a) (.str z) H Q := ⟨a, _, rfl, .inl ⟨kvs, .inr z, e, rfl, rfl⟩, q⟩
theorem a_dputK {kvs : List (Key × V)} {k : Key} {v : V} {N : Hp → Prop} (e : H a = some (.dK kvs)) (hl : kvs.length < 100000) (q : N (upd H a (.dK (putK kvs k v)))) : rDPut (.ref a) (kV k) v H N := ⟨a, _, rfl, .inl ⟨kvs, k, e, rfl, szl hl, rfl⟩, q⟩
theorem a_dputS {kvs : List (Key × V)} {z : Str} {v : V} {N : Hp → Prop} (e : H a = some (.dK kvs)) (hl : kvs.length < 100000) (q : N (upd H a (.dK (putK kvs (.inr z) v)))) : rDPut (.ref a) (.str z) v H N := a_dputK (k := .inr z) e hl q
theorem a_dputI {kvs : List (Key × V)} {i : Int} {v : V} {N : Hp → Prop} (e : H a = some (.dK kvs)) (hl : kvs.length < 100000) (q : N (upd H a (.dK (putK kvs (.inl i) v)))) : rDPut (.ref a) (.int i) v H N := a_dputK (k := .inl i) e hl q
theorem a_dputT {kvs : List (List Key × V)} {k : List Key} {v : V} {b : Addr} {N : Hp → Prop} (e : H a = some (.dT kvs)) (eb : H b = some (.tup (k.map kV))) (hl : kvs.length < 100000) (q : N (upd H a (.dT (putK kvs k v)))) : rDPut (.ref a) (.ref b) v H N := ⟨a, _, rfl, .inr ⟨kvs, k, b, e, rfl, eb, szl hl, rfl⟩, q⟩
theorem w_dget2 (h : td σ H fun x H1 => ∃ a, x = .ref a ∧ IsD H1 a ∧ ty σ H1 fun y H2 => tx σ H2 fun z H3 => ∃ o, DGet H3 a y o ∧ Q (o.getD z) H3) : tDGet2 td ty tx σ H Q := h
/-- a walk of the keys of the dict at a: it is locked meanwhile -/
theorem w_lockE {u : HO} (h : H a = some u) (mu : Mut (some u)) (q : ∀ od, te σ (upd H a (.frz od u)) fun v H' => H' a = some (.frz od u) ∧ Q v (upd H' a u)) : tLockE te σ H Q := ⟨a, u, h, mu, q⟩
theorem w_lockS {u : HO} (h : H a = some u) (mu : Mut (some u)) (q : ∀ od, ts ⟨fun σ' H' => H' a = some (.frz od u) ∧ D.nx σ' (upd H' a u), fun v H' => H' a = some (.frz od u) ∧ D.rt v (upd H' a u), fun σ' H' => H' a = some (.frz od u) ∧ D.bk σ' (upd H' a u), fun σ' H' => H' a = some (.frz od u) ∧ D.ct σ' (upd H' a u)⟩ σ (upd H a (.frz od u))) : tLock ts D σ H := ⟨a, u, h, mu, q⟩
theorem w_iKeys {R : It → Hp → Prop} (h : td σ H fun x H1 => ∃ d o, x = .ref d ∧ ((∃ kvs, H1 d = some (.frz o (.dK kvs)) ∧ R (Itk d o kvs) H1) ∨ ∃ kvs, H1 d = some (.frz o (.dT kvs)) ∧ R (Itkt d o kvs) H1)) : iKeys td σ H R := h
theorem lock_same {H2 : Hp} {u : HO} {od : Obj} (h : H a = some u) (s : Same (upd H a (.frz od u)) H2) : Same H (upd H2 a u) := fun b o e => by
  by_cases hb : b = a
  · subst hb
    rw [upd_same]
    rw [h] at e
    exact e
  · rw [upd_ne hb]
    exact s _ _ (by rw [upd_ne hb]; exact e)
theorem rd_s {H2 : Hp} {u : HO} (s : Same H H2) (h : Rd H a u) : Rd H2 a u := h.imp (fun z => s _ _ z) fun ⟨o, z⟩ => ⟨o, s _ _ z⟩
end
end RG
namespace RG
open PySem PySem.Spec PyProof.Rows L2 LamX
section
variable {K : PySem.W.Frag} {H : Hp} {Q : VK}
/-- xs[k:] of a list -/
theorem w_slLFrom {a : Addr} {xs : List V} {k : Nat} (s : SqL K H a xs) (h : ∀ p H2, Same H H2 → H p = none → H2 p = some (.lst (xs.drop k)) → Q (.ref p) H2) : rSlL K (.ref a) (some (k : Nat)) none H Q := by
  refine ⟨a, xs, rfl, s, fun p np => ?_⟩
  have e1 : HT.sIx xs.length 0 (some ((k : Nat) : Int)) = min k xs.length := HT.sIx_nat _ _ k
  have e2 : HT.sIx xs.length xs.length none = xs.length := HT.sIx_none _ _
  have e3 : cutV xs (some ((k : Nat) : Int)) none = xs.drop k := by
    unfold cutV
    rw [e1, e2]
    rcases Nat.le_total k xs.length with hk | hk
    · rw [Nat.min_eq_left hk, List.take_of_length_le (by rw [List.length_drop]; omega)]
    · rw [Nat.min_eq_right hk, List.drop_of_length_le hk]
      simp
  rw [e3]
  exact h p _ (Same.new np) np upd_same
theorem w_slLToN {a : Addr} {xs : List V} {k : Nat} (s : SqL K H a xs) (h : ∀ p H2, Same H H2 → H p = none → H2 p = some (.lst (xs.take k)) → Q (.ref p) H2) : rSlL K (.ref a) none (some (k : Nat)) H Q :=
  w_slLTo s fun p np => h p _ (Same.new np) np upd_same
/-- tuple(xs), xs a list of data -/
theorem w_tupleD {p : Addr} {xs : List V} {ds : List PyData} (hp : SqL K H p xs) (ha : DpAll K H xs ds) (h : ∀ u H2, Same H H2 → H2 u = some (.tup xs) → Dp K H2 (.ref u) (.tuple ds) → Q (.ref u) H2) : cTuple K [.ref p] H Q :=
  ⟨p, xs, rfl, .inl ⟨hp, fun t nt => h t _ (Same.new nt) upd_same (.tup (tupOf upd_same) (dps_s (Same.new nt) ha))⟩⟩
end
end RG
namespace RG
open PySem PySem.Spec PyProof.Rows L2 LamX
mutual
/-- data without lists stay where tuples stay -/
theorem dp_tups {K : PySem.W.Frag} {H H1 : Hp} (e : ∀ b xs, SqT K H b xs → SqT K H1 b xs) : ∀ {v : V} {d : PyData}, imm d = true → Dp K H v d → Dp K H1 v d
  | _, _, _, .non => .non
  | _, _, _, .bl b => .bl b
  | _, _, _, .int i => .int i
  | _, _, _, .str x => .str x
  | _, _, i, .lst h a => by simp [imm] at i
  | _, _, i, .tup h a => .tup (e _ _ h) (dps_tups e (by simpa [imm] using i) a)
theorem dps_tups {K : PySem.W.Frag} {H H1 : Hp} (e : ∀ b xs, SqT K H b xs → SqT K H1 b xs) : ∀ {vs : List V} {ds : List PyData}, immAll ds = true → DpAll K H vs ds → DpAll K H1 vs ds
  | _, _, _, .nil => .nil
  | _, _, i, .cons a b => by
    simp [immAll] at i
    exact .cons (dp_tups e i.1 a) (dps_tups e i.2 b)
end
def notTup : HO → Prop
  | .tup _ => False
  | .frz _ (.tup _) => False
  | _ => True
theorem tups_upd {K : PySem.W.Frag} {H : Hp} {D : Addr} {o u : HO} (hD : H D = some u) (n : notTup u) : ∀ b xs, SqT K H b xs → SqT K (upd H D o) b xs := fun b xs h => by
  rcases h with (h | ⟨w, h⟩) | h
  · exact .inl (.inl (by rw [upd_ne (ne_of h hD (by intro z; rw [← z] at n; exact n))]; exact h))
  · exact .inl (.inr ⟨w, by rw [upd_ne (ne_of h hD (by intro z; rw [← z] at n; exact n))]; exact h⟩)
  · exact .inr h
end RG
namespace RG
open PySem PySem.Spec PyProof.Rows L2 LamX
/-- sorted(d), len(d) -/
def rSortDI : List V → Hp → VK → Prop := fun xs H Q => ∃ (a : Addr) (kvs : List (Key × V)) (ks : List Int), xs = [.ref a] ∧ Rd H a (.dK kvs) ∧ kvs.map (·.1) = ks.map Sum.inl ∧ ks.length < 64 ∧ ∀ (ys : List Int) (p : Addr), ys.Perm ks → ys.Pairwise (· ≤ ·) → H p = none → Q (.ref p) (upd H p (.lst (ys.map V.int)))
def rSortDS : List V → Hp → VK → Prop := fun xs H Q => ∃ (a : Addr) (kvs : List (Key × V)) (ks : List Str), xs = [.ref a] ∧ Rd H a (.dK kvs) ∧ kvs.map (·.1) = ks.map Sum.inr ∧ ks.length < 64 ∧ ∀ ys p, ys.Perm ks → sortedS ys = true → H p = none → Q (.ref p) (upd H p (.lst (ys.map V.str)))
def rLenD : List V → Hp → VK → Prop := fun xs H Q => ∃ a kvs, xs = [V.ref a] ∧ H a = some (.dK kvs) ∧ Q (.int kvs.length) H
theorem put_keysI {kvs : List (Key × V)} {ks : List Int} {x : Int} {v : V} (h : kvs.map (·.1) = ks.map Sum.inl) : (putK kvs (.inl x) v).map (·.1) = (if x ∈ ks then ks else ks ++ [x]).map Sum.inl := by
  have ha : (kvs.any fun kv => decide (kv.1 = Sum.inl x)) = decide (x ∈ ks) := by
    have h1 : (kvs.any fun kv => decide (kv.1 = Sum.inl x)) = (kvs.map (·.1)).any fun k => decide (k = Sum.inl x) := by rw [List.any_map]; rfl
    rw [h1, h, List.any_map]
    apply Bool.eq_iff_iff.mpr
    rw [List.any_eq_true, decide_eq_true_eq]
    constructor
    · rintro ⟨y, hy, e⟩
      have := of_decide_eq_true e
      injection this with e
      rw [← e]
      exact hy
    · intro hx
      exact ⟨x, hx, by simp⟩
  unfold putK
  rw [ha]
  by_cases hx : x ∈ ks
  · rw [if_pos (decide_eq_true hx), if_pos hx, ← h, List.map_map]
    apply List.map_congr_left
    intro kv _
    simp only [Function.comp]
    split <;> rfl
  · rw [if_neg (by simpa using hx), if_neg hx, List.map_append, List.map_append, h]
    rfl
theorem put_keysS {kvs : List (Key × V)} {ks : List Str} {x : Str} {v : V} (h : kvs.map (·.1) = ks.map Sum.inr) : (putK kvs (.inr x) v).map (·.1) = (if x ∈ ks then ks else ks ++ [x]).map Sum.inr := by
  have ha : (kvs.any fun kv => decide (kv.1 = Sum.inr x)) = decide (x ∈ ks) := by
    have h1 : (kvs.any fun kv => decide (kv.1 = Sum.inr x)) = (kvs.map (·.1)).any fun k => decide (k = Sum.inr x) := by rw [List.any_map]; rfl
    rw [h1, h, List.any_map]
    apply Bool.eq_iff_iff.mpr
    rw [List.any_eq_true, decide_eq_true_eq]
    constructor
    · rintro ⟨y, hy, e⟩
      have := of_decide_eq_true e
      injection this with e
      rw [← e]
      exact hy
    · intro hx
      exact ⟨x, hx, by simp⟩
  unfold putK
  rw [ha]
  by_cases hx : x ∈ ks
  · rw [if_pos (decide_eq_true hx), if_pos hx, ← h, List.map_map]
    apply List.map_congr_left
    intro kv _
    simp only [Function.comp]
    split <;> rfl
  · rw [if_neg (by simpa using hx), if_neg hx, List.map_append, List.map_append, h]
    rfl
theorem lt_of_le_nd : ∀ {l : List Int}, l.Pairwise (· ≤ ·) → l.Nodup → l.Pairwise (· < ·)
  | [], _, _ => .nil
  | a :: l, h, n => by
    rw [List.pairwise_cons] at h ⊢
    rw [List.nodup_cons] at n
    refine ⟨fun b hb => ?_, lt_of_le_nd h.2 n.2⟩
    have := h.1 b hb
    have : a ≠ b := fun z => n.1 (z ▸ hb)
    omega
end RG
/-! ### data all of whose lists stand in the heap -/
namespace RG
open PySem PySem.Spec PyProof.Rows L2 LamX
mutual
theorem KD.imp {K : PySem.W.Frag} {A A' : Addr → Prop} {H H2 : Hp} (s : Same H H2) (w : ∀ b, A' b → A b) : ∀ {v : V} {d : PyData}, KD K A H v d → KD K A' H2 v d
  | _, _, .non => .non
  | _, _, .bl b => .bl b
  | _, _, .int i => .int i
  | _, _, .str x => .str x
  | _, _, .lst n h t => .lst (fun z => n (w _ z)) (s.seq h) (KDs.imp s w t)
  | _, _, .tup h t => .tup (RG.Same.tup s h) (KDs.imp s w t)
theorem KDs.imp {K : PySem.W.Frag} {A A' : Addr → Prop} {H H2 : Hp} (s : Same H H2) (w : ∀ b, A' b → A b) : ∀ {vs : List V} {ds : List PyData}, KDs K A H vs ds → KDs K A' H2 vs ds
  | _, _, .nil => .nil
  | _, _, .cons h t => .cons (KD.imp s w h) (KDs.imp s w t)
end
abbrev DpN (K : PySem.W.Frag) (H : Hp) : V → PyData → Prop := KD K (fun b => H b = none) H
abbrev DpNs (K : PySem.W.Frag) (H : Hp) : List V → List PyData → Prop := KDs K (fun b => H b = none) H
/-- all but what stands at p stays -/
def Oth (p : Addr) (H H2 : Hp) : Prop := ∀ b o, H b = some o → b ≠ p → H2 b = some o
section
variable {K : PySem.W.Frag} {H H1 H2 : Hp} {v : V} {d : PyData} {vs : List V} {ds es : List PyData} {p : Addr} {T : List (Addr × Str)}
theorem dpn_s (s : Same H H2) (h : DpN K H v d) : DpN K H2 v d := h.imp s fun b e => s.free e
theorem dpns_s (s : Same H H2) (h : DpNs K H vs ds) : DpNs K H2 vs ds := h.imp s fun b e => s.free e
/-- what is new is none of its lists -/
theorem dpn_new (h : DpN K H v d) (s : Same H H2) (np : H p = none) : KD K (fun b => b = p) H2 v d := h.imp s fun b e => by rw [e]; exact np
theorem dpns_new (h : DpNs K H vs ds) (s : Same H H2) (np : H p = none) : KDs K (fun b => b = p) H2 vs ds := h.imp s fun b e => by rw [e]; exact np
theorem dpn_lst {a : Addr} (h : H a = some (.lst vs)) (t : DpNs K H vs ds) : DpN K H (.ref a) (.list ds) := .lst (fun z => by rw [h] at z; cases z) (lstOf h) t
theorem KDs.of_get {A : Addr → Prop} : ∀ {vs : List V} {ds : List PyData}, vs.length = ds.length → (∀ (j : Nat) (v : V) (d : PyData), vs[j]? = some v → ds[j]? = some d → KD K A H v d) → KDs K A H vs ds
  | [], [], _, _ => .nil
  | [], _ :: _, h, _ => by simp at h
  | _ :: _, [], h, _ => by simp at h
  | v :: vs, d :: ds, h, g => .cons (g 0 v d rfl rfl) (KDs.of_get (by simpa using h) fun j v' d' h1 h2 => g (j + 1) v' d' (by simpa using h1) (by simpa using h2))
theorem kds_ints {A : Addr → Prop} : ∀ ns : List Int, KDs K A H (ns.map V.int) (ns.map PyData.int)
  | [] => .nil
  | n :: ns => .cons (.int n) (kds_ints ns)
theorem KDs.get {A : Addr → Prop} : ∀ {vs : List V} {ds : List PyData} {i : Nat} {d : PyData}, KDs K A H vs ds → ds[i]? = some d → ∃ v, vs[i]? = some v ∧ KD K A H v d
  | _, _, _, _, .nil, e => by simp at e
  | _, _, 0, _, .cons h _, e => by
    simp at e
    subst e
    exact ⟨_, rfl, h⟩
  | _, _, i + 1, d, .cons _ t, e => by
    obtain ⟨v, h1, h2⟩ := KDs.get (i := i) (d := d) t (by simpa using e)
    exact ⟨v, by simpa using h1, h2⟩
theorem KDs.drop {A : Addr → Prop} : ∀ {vs : List V} {ds : List PyData} (n : Nat), KDs K A H vs ds → KDs K A H (vs.drop n) (ds.drop n)
  | _, _, 0, h => by simpa using h
  | _, _, _ + 1, .nil => by simpa using (KDs.nil : KDs K A H [] [])
  | _, _, n + 1, .cons _ t => by simpa using KDs.drop n t
theorem lsa_one {xs : List V} (h : H p = some (.lst xs)) : LsA (fun b => b = p) H := fun b (hb : b = p) => ⟨xs, by rw [hb]; exact h⟩
theorem Oth.refl : Oth p H H := fun _ _ h _ => h
theorem Oth.trans (x : Oth p H H1) (y : Oth p H1 H2) : Oth p H H2 := fun b o h n => y b o (x b o h n) n
theorem Oth.same (x : Oth p H H1) (s : Same H1 H2) : Oth p H H2 := fun b o h n => s _ _ (x b o h n)
theorem oth_of (s : Same H H1) : Oth p H H1 := fun b o h _ => s b o h
theorem Oth.put {o : HO} (x : Oth p H H1) : Oth p H (upd H1 p o) := fun b u h n => by
  rw [upd_ne n]
  exact x b u h n
theorem Oth.kpb (x : Oth p H H1) : KpB (fun b => b = p) H H1 := fun b o h n _ => x b o h n
theorem Oth.tabs {xs : List V} (x : Oth p H H1) (hp : H p = some (.lst xs)) (t : Tabs T H) : Tabs T H1 := fun q hq => by
  obtain ⟨ps, h1, h2, h3⟩ := t q hq
  refine ⟨ps, x _ _ h1 (ne_of h1 hp (by intro z; cases z)), h2, fun pos cv hc => ?_⟩
  obtain ⟨c, e1, e2⟩ := h3 pos cv hc
  exact ⟨c, e1, x _ _ e2 (ne_of e2 hp (by intro z; unfold CodeO at z; cases z))⟩
end
/-- evaluated to such data -/
def EvN (K : PySem.W.Frag) (te : TE) (σ : L2.St) (H0 : Hp) (d : PyData) : Prop := ∀ H, Same H0 H → ∀ Q : VK, (∀ v H2, Same H H2 → DpN K H2 v d → Q v H2) → te σ H Q
def EvNs (K : PySem.W.Frag) (ts : TA) (σ : L2.St) (H0 : Hp) (ds : List PyData) : Prop := ∀ H, Same H0 H → ∀ Q : List V → Hp → Prop, (∀ vs H2, Same H H2 → DpNs K H2 vs ds → Q vs H2) → ts σ H Q
/-- to a new list of such data -/
def EvNL (K : PySem.W.Frag) (te : TE) (σ : L2.St) (H0 : Hp) (ds : List PyData) : Prop := ∀ H, Same H0 H → ∀ Q : VK, (∀ p vs H1 H2, Same H H1 → Same H1 H2 → H1 p = none → H2 p = some (.lst vs) → DpNs K H1 vs ds → Q (.ref p) H2) → te σ H Q
section
variable {K : PySem.W.Frag} {σ : L2.St} {H0 : Hp} {d : PyData} {ds es : List PyData} {te tf : TE} {ts : TA}
theorem evn_non : EvN K (tC .non) σ H0 .none := fun H _ Q q => q _ H (Same.refl _) .non
theorem evn_int {i : Int} : EvN K (tC (.int i)) σ H0 (.int i) := fun H _ Q q => q _ H (Same.refl _) (.int i)
theorem evn_bl {b : Bool} : EvN K (tC (.bl b)) σ H0 (.bool b) := fun H _ Q q => q _ H (Same.refl _) (.bl b)
theorem evn_str {z : Str} : EvN K (tC (.str z)) σ H0 (.str z) := fun H _ Q q => q _ H (Same.refl _) (.str z)
theorem evn_neg {i : Int} : EvN K (tUn (rU fun i => .int (-i)) (tC (.int i))) σ H0 (.int (-i)) := fun H _ Q q => ⟨i, rfl, q _ H (Same.refl _) (.int _)⟩
theorem evn_vint {i : Nat} {n : Int} (e : σ[i]? = some (some (.int n))) : EvN K (tVar i) σ H0 (.int n) := fun H s Q q => ⟨_, e, q _ H (Same.refl _) (.int n)⟩
theorem evn_var {i : Nat} {v : V} (e : σ[i]? = some (some v)) (h : DpN K H0 v d) : EvN K (tVar i) σ H0 d := fun H s Q q => ⟨v, e, q v H (Same.refl _) (dpn_s s h)⟩
theorem evns_nil : EvNs K tNil σ H0 [] := fun H _ Q q => q [] H (Same.refl _) .nil
theorem evns_cons (x : EvN K te σ H0 d) (y : EvNs K ts σ H0 ds) : EvNs K (tCons te ts) σ H0 (d :: ds) := fun H s Q q => x H s _ fun v H1 s1 h1 => y H1 (s.trans s1) _ fun vs H2 s2 h2 => q _ H2 (s1.trans s2) (.cons (dpn_s s2 h1) h2)
theorem evn_tup (x : EvNs K ts σ H0 ds) (l : ds.length ≤ 1000) : EvN K (tTup ts) σ H0 (.tuple ds) := fun H s Q q => x H s _ fun vs H1 s1 h1 => ⟨sz (by rw [h1.len]; omega), fun p np => q _ _ (s1.trans (Same.new np)) (.tup (tupOf upd_same) (dpns_s (Same.new np) h1))⟩
theorem evnl_lst (x : EvNs K ts σ H0 ds) (l : ds.length ≤ 1000) : EvNL K (tLst ts) σ H0 ds := fun H s Q q => x H s _ fun vs H1 s1 h1 => ⟨sz (by rw [h1.len]; omega), fun p np => q p vs H1 _ s1 (Same.new np) np upd_same h1⟩
theorem evn_ofL (x : EvNL K te σ H0 ds) : EvN K te σ H0 (.list ds) := fun H s Q q => x H s _ fun p vs H1 H2 s1 s2 np hp h1 => q _ _ (s1.trans s2) (dpn_lst hp (dpns_s s2 h1))
theorem evn_lst (x : EvNs K ts σ H0 ds) (l : ds.length ≤ 1000) : EvN K (tLst ts) σ H0 (.list ds) := evn_ofL (evnl_lst x l)
theorem evnl_cat {i : Nat} {b : Addr} {xs : List V} (e : σ[i]? = some (some (.ref b))) (hb : H0 b = some (.lst xs)) (hx : DpNs K H0 xs ds) (y : EvNL K te σ H0 es) (l : ds.length + es.length ≤ 1000) : EvNL K (tOp rCat (tVar i) te) σ H0 (ds ++ es) := fun H s Q q => ⟨.ref b, e, y H s _ fun p vs H1 H2 s1 s2 np hp h1 => by
  refine w_cat (s2 _ _ (s1 _ _ (s _ _ hb))) hp (by rw [hx.len, h1.len]; omega) fun c nc => q c _ H2 _ (s1.trans s2) (Same.new nc) nc upd_same ?_
  exact (dpns_s ((s.trans s1).trans s2) hx).app (dpns_s s2 h1)⟩
theorem evn_tupleV {i : Nat} {a : Addr} {xs : List V} (e : σ[i]? = some (some (.ref a))) (ha : H0 a = some (.lst xs)) (hx : DpNs K H0 xs ds) : EvN K (tCB (cTuple K) (tCons (tVar i) tNil)) σ H0 (.tuple ds) := fun H s Q q =>
  ⟨.ref a, e, a, xs, rfl, .inl ⟨lstOf (s _ _ ha), fun t nt => q _ _ (Same.new nt) (.tup (tupOf upd_same) (dpns_s (s.trans (Same.new nt)) hx))⟩⟩
theorem evnl_from {i k : Nat} {a : Addr} {xs : List V} (e : σ[i]? = some (some (.ref a))) (ha : H0 a = some (.lst xs)) (hx : DpNs K H0 xs ds) {m : Int} (hm : m = (k : Int)) : EvNL K (tSl (rSlL K) (tVar i) (tPart (tC (.int m))) tNoPart) σ H0 (ds.drop k) := fun H s Q q => by
  subst hm
  refine w_sl ⟨.ref a, e, ⟨_, rfl, w_noPart ?_⟩⟩
  refine w_slLFrom (k := k) (lstOf (s _ _ ha)) fun p H2 s2 np hp => ?_
  exact q p _ H H2 (Same.refl _) s2 np hp ((dpns_s s hx).drop k)
theorem evn_ixV {i k : Nat} {a : Addr} {xs : List V} (e : σ[i]? = some (some (.ref a))) (ha : H0 a = some (.lst xs)) (hx : DpNs K H0 xs ds) {m : Int} (hm : m = (k : Int)) (hd : ds[k]? = some d) : EvN K (tOp (rIxL K) (tVar i) (tC (.int m))) σ H0 d := fun H s Q q => by
  obtain ⟨v, hv, hvd⟩ := hx.get hd
  exact ⟨.ref a, e, w_c (w_ixL (lstOf (s _ _ ha)) (at_of (j := k) hm hv) (q v H (Same.refl _) (dpn_s s hvd)))⟩
theorem evn_use {H : Hp} {Q : VK} (x : EvN K te σ H d) (q : ∀ v H2, Same H H2 → DpN K H2 v d → Q v H2) : te σ H Q := x H (Same.refl _) Q q
theorem evnl_use {H : Hp} {Q : VK} (x : EvNL K te σ H ds) (q : ∀ p vs H1 H2, Same H H1 → Same H1 H2 → H1 p = none → H2 p = some (.lst vs) → DpNs K H1 vs ds → Q (.ref p) H2) : te σ H Q := x H (Same.refl _) Q q
end
/-! ### rows of numbers -/
/-- a list of lists of ints at F, its rows at as -/
structure MatAt (H : Hp) (F : Addr) (as : List Addr) (m : List (List Int)) : Prop where
  lst : H F = some (.lst (as.map V.ref))
  len : as.length = m.length
  row : ∀ (j : Nat) (b : Addr) (r : List Int), as[j]? = some b → m[j]? = some r → H b = some (.lst (r.map V.int))
section
variable {K : PySem.W.Frag} {H H1 H2 : Hp} {F : Addr} {as : List Addr} {m : List (List Int)} {σ : L2.St} {Q : VK}
theorem MatAt.keep (M : MatAt H F as m) (k : ∀ b xs, (b = F ∨ b ∈ as) → H b = some (.lst xs) → H1 b = some (.lst xs)) : MatAt H1 F as m :=
  ⟨k _ _ (.inl rfl) M.lst, M.len, fun j b r h1 h2 => k _ _ (.inr (List.mem_of_getElem? h1)) (M.row j b r h1 h2)⟩
theorem MatAt.s (M : MatAt H F as m) (s : Same H H1) : MatAt H1 F as m := M.keep fun b xs _ h => s _ _ h
theorem MatAt.kds {A : Addr → Prop} (M : MatAt H F as m) (n : ∀ b ∈ as, ¬ A b) : KDs K A H (as.map V.ref) (m.map fun r => .list (r.map PyData.int)) := by
  refine KDs.of_get (by simp [M.len]) fun j v d h1 h2 => ?_
  rw [List.getElem?_map] at h1 h2
  obtain ⟨b, hb, rfl⟩ := Option.map_eq_some_iff.mp h1
  obtain ⟨r, hr, rfl⟩ := Option.map_eq_some_iff.mp h2
  exact .lst (n b (List.mem_of_getElem? hb)) (lstOf (M.row j b r hb hr)) (kds_ints r)
theorem MatAt.dpns (M : MatAt H F as m) : DpNs K H (as.map V.ref) (m.map fun r => .list (r.map PyData.int)) := M.kds fun b hb z => by
  obtain ⟨j, hj, e⟩ := List.mem_iff_getElem.mp hb
  have hjm : j < m.length := by rw [← M.len]; exact hj
  have := M.row j b m[j] (by rw [← e]; exact List.getElem?_eq_getElem hj) (List.getElem?_eq_getElem hjm)
  rw [z] at this
  cases this
theorem MatAt.dpn (M : MatAt H F as m) : DpN K H (.ref F) (.list (m.map fun r => .list (r.map PyData.int))) := dpn_lst M.lst M.dpns
/-- [list(row) for row in ..] -/
theorem lc_copy {i : Nat} (M : MatAt H F as m) (h6 : m.length ≤ 1000) (hw : ∀ x, wipe ((wipe σ [i]).set i (some x)) [i] = wipe σ [i]) (hv : ∀ x, ((wipe σ [i]).set i (some x))[i]? = some (some x))
    (q : ∀ (C : Addr) (cs : List Addr) (H2 : Hp), H C = none → Same H H2 → MatAt H2 C cs m → cs.Nodup → (∀ b ∈ cs, H b = none ∧ b ≠ C) → Q (.ref C) H2) :
    LcGoal (Itl K F) (gName i) tYes (tCB (cList K) (tCons (tVar i) tNil)) [i] σ H Q := by
  refine lc_go (walk_list (K := K) (a := F) (xs := as.map V.ref)) (by rw [List.length_map, M.len]; omega) (fun C j acc H' => Same H H' ∧ ∃ cs : List Addr, acc = cs.map V.ref ∧ cs.length = j ∧ cs.Nodup ∧ (∀ b ∈ cs, H b = none ∧ b ≠ C) ∧ ∀ (k : Nat) (b : Addr) (r : List Int), cs[k]? = some b → m[k]? = some r → H' b = some (.lst (r.map V.int)))
    (fun C hC => ⟨Same.new hC, [], rfl, rfl, .nil, fun b hb => by simp at hb, fun k b r h => by simp at h⟩) (fun C j acc H' hC _ iv => lstOf (iv.1 _ _ M.lst)) ?_ ?_
  · rintro C j acc x H' H'' hC hj hacc hH' ⟨s1, cs, rfl, hl, hnd, hf, hrow⟩ ⟨rfl, hx⟩
    rw [List.getElem?_map] at hx
    obtain ⟨b, hb, rfl⟩ := Option.map_eq_some_iff.mp hx
    rw [List.length_map] at hj
    have hjm : j < m.length := by rw [← M.len]; exact hj
    have hr := M.row j b m[j] hb (List.getElem?_eq_getElem hjm)
    refine w_name ⟨hw _, w_yes (if_t rfl (w_cb (w_cons ⟨_, hv _, w_nil ?_⟩)))⟩
    refine ⟨b, m[j].map V.int, rfl, .inl (lstOf (s1 _ _ hr)), fun c nc => ?_⟩
    have sc : Same H'' (upd H'' c (.lst (m[j].map V.int))) := Same.new nc
    have nC : c ≠ C := fun z => by rw [z, hH'] at nc; cases nc
    refine lc_nx (by omega) hacc (sc _ _ hH') ⟨fun b' o e => ?_, cs ++ [c], by simp, by simp [hl], ?_, fun b' hb' => ?_, fun k b' r h1 h2 => ?_⟩
    · rw [upd_ne (ne_of_none e hC)]
      exact sc _ _ (s1 _ _ e)
    · rw [List.nodup_append]
      refine ⟨hnd, by simp, fun u hu w hw2 => ?_⟩
      cases List.mem_singleton.mp hw2
      intro z
      subst z
      obtain ⟨k, hk, e⟩ := List.mem_iff_getElem.mp hu
      have := hrow k u m[k] (by rw [← e]; exact List.getElem?_eq_getElem hk) (List.getElem?_eq_getElem (by omega))
      rw [nc] at this
      cases this
    · rcases List.mem_append.mp hb' with hb' | hb'
      · exact hf b' hb'
      · cases List.mem_singleton.mp hb'
        exact ⟨s1.free nc, nC⟩
    · rcases Nat.lt_or_ge k cs.length with hk | hk
      · rw [List.getElem?_append_left hk] at h1
        have := hf b' (List.mem_of_getElem? h1)
        rw [upd_ne this.2]
        exact sc _ _ (hrow k b' r h1 h2)
      · have hk2 : k = cs.length := by
          have := (List.getElem?_eq_some_iff.mp h1).1
          simp at this
          omega
        subst hk2
        rw [List.getElem?_append_right (Nat.le_refl _)] at h1
        have eb : c = b' := by simpa using h1
        subst eb
        rw [hl, List.getElem?_eq_getElem hjm] at h2
        cases h2
        rw [upd_ne nC, upd_same]
  · rintro C acc H' hC hH' _ ⟨s1, cs, rfl, hl, hnd, hf, hrow⟩
    rw [List.length_map] at hl
    exact q C cs H' hC s1 ⟨hH', by rw [hl, M.len], hrow⟩ hnd hf
/-- [[e for p in range(n)] for l in range(k)] while dice are thrown -/
theorem lc_mat (K : PySem.W.Frag) {a : Addr} {te : TE} {il ip n k : Nat} {kk nn : Int} (ek : kk = (k : Int)) (en : nn = (n : Int)) (hk1 : k ≤ 1000) (hn1 : n ≤ 1000) (hd : Dice H a) (P : Nat → Nat → Int → Prop)
    (hw1 : ∀ x, wipe ((wipe σ [il]).set il (some x)) [il] = wipe σ [il]) (hw2 : ∀ x y, wipe ((wipe ((wipe σ [il]).set il (some x)) [ip]).set ip (some y)) [ip] = wipe ((wipe σ [il]).set il (some x)) [ip])
    (he : ∀ (l p : Nat) (H' : Hp) (Qe : VK), l < k → p < n → But a H H' → (∀ x H'', But a H' H'' → P l p x → Qe (.int x) H'') → te ((wipe ((wipe σ [il]).set il (some (.int (0 + (l : Int))))) [ip]).set ip (some (.int (0 + (p : Int))))) H' Qe)
    (q : ∀ (F : Addr) (as : List Addr) (m : List (List Int)) (H2 : Hp), H F = none → But a H H2 → F ≠ a → MatAt H2 F as m → m.length = k → (∀ r ∈ m, r.length = n) → (∀ b ∈ as, H b = none ∧ b ≠ F ∧ b ≠ a) → (∀ l p : Nat, l < k → p < n → P l p ((m.getD l []).getD p 0)) → Q (.ref F) H2) :
    LcGoal (Itr 0 kk.toNat) (gName il) tYes (tLc (iRng1 (tCons (tC (.int nn)) tNil)) (gName ip) tYes te [ip]) [il] σ H Q := by
  subst ek en
  rw [Int.toNat_natCast]
  refine lc_go walk_range (by omega) (fun F i acc H' => But a H H' ∧ F ≠ a ∧ ∃ (as : List Addr) (m : List (List Int)), acc = as.map V.ref ∧ as.length = i ∧ m.length = i ∧ (∀ b ∈ as, H b = none ∧ b ≠ F ∧ b ≠ a) ∧ (∀ r ∈ m, r.length = n) ∧ (∀ (j : Nat) (b : Addr) (r : List Int), as[j]? = some b → m[j]? = some r → H' b = some (.lst (r.map V.int))) ∧ ∀ l p : Nat, l < i → p < n → P l p ((m.getD l []).getD p 0))
    (fun F hF => ⟨But.of hd (Same.new hF), hd.ne hF, [], [], rfl, rfl, rfl, by simp, by simp, by simp, fun l p h => by omega⟩) (fun _ _ _ _ _ _ _ => trivial) ?_ ?_
  · rintro F i acc x H' H'' hF hi hacc hH' ⟨b1, nF, as, m, rfl, hl, hml, hf, hr, hrow, hP⟩ ⟨rfl, rfl⟩
    refine w_name ⟨hw1 _, w_yes (if_t rfl (w_lc (w_rng1 (w_cons (w_c (w_nil ⟨_, rfl, by omega, by omega, ?_⟩))))))⟩
    rw [Int.toNat_natCast]
    refine lc_dice (K := K) walk_range (by omega) (fun j ds => ∃ ns : List Int, ds = ns.map PyData.int ∧ ns.length = j ∧ ∀ p, p < j → P i p (ns.getD p 0)) b1.d1 ⟨[], rfl, rfl, fun p h => by omega⟩ (fun _ _ => trivial) ?_ ?_
    · rintro C j acc2 y G' G'' hC hj hacc2 hG' ⟨b2, nC, ds, h1, h2, ns, rfl, hnl, hnP⟩ ⟨rfl, rfl⟩
      refine w_name ⟨hw2 _ _, w_yes (if_t rfl (he i j G'' _ hi hj (b1.trans b2) fun x H3 b3 hx => ?_))⟩
      refine lcr_nx hC (by omega) hacc2 hG' b2 nC h1 h2 b3 (.int x) rfl ⟨ns ++ [x], by rw [List.map_append]; rfl, by simp [hnl], fun p hp => ?_⟩
      rcases Nat.lt_or_ge p ns.length with h | h
      · rw [List.getD_eq_getElem?_getD, List.getElem?_append_left h, ← List.getD_eq_getElem?_getD]
        exact hnP p (by omega)
      · have : p = j := by omega
        subst this
        rw [List.getD_eq_getElem?_getD, ← hnl, List.getElem?_append_right (Nat.le_refl _)]
        simpa [hnl] using hx
    · rintro C acc2 ds G hC b2 nC hG h1 _ ⟨ns, rfl, hnl, hnP⟩
      have e := dpAll_intsV h1
      subst e
      have nCF : C ≠ F := (ne_of_none hH' hC).symm
      have hFG := b2.kp _ _ hH' nF
      refine lc_nx (by omega) hacc hFG ⟨(b1.trans b2).mut hF nF, nF, as ++ [C], m ++ [ns], by simp, by simp [hl], by simp [hml], fun b hb => ?_, fun r hr2 => ?_, fun j b r h3 h4 => ?_, fun l p hl2 hp => ?_⟩
      · rcases List.mem_append.mp hb with hb | hb
        · exact hf b hb
        · cases List.mem_singleton.mp hb
          exact ⟨b1.free hC, nCF, nC⟩
      · rcases List.mem_append.mp hr2 with hr2 | hr2
        · exact hr r hr2
        · cases List.mem_singleton.mp hr2
          exact hnl
      · rcases Nat.lt_or_ge j as.length with hj | hj
        · rw [List.getElem?_append_left hj] at h3
          rw [List.getElem?_append_left (by omega)] at h4
          have hfb := hf b (List.mem_of_getElem? h3)
          rw [upd_ne hfb.2.1]
          exact b2.kp _ _ (hrow j b r h3 h4) hfb.2.2
        · have hj2 : j = as.length := by
            have := (List.getElem?_eq_some_iff.mp h3).1
            simp at this
            omega
          subst hj2
          rw [List.getElem?_append_right (Nat.le_refl _)] at h3
          have eb : C = b := by simpa using h3
          subst eb
          rw [hl, ← hml, List.getElem?_append_right (Nat.le_refl _)] at h4
          have er : ns = r := by simpa using h4
          subst er
          rw [upd_ne nCF]
          exact hG
      · rcases Nat.lt_or_ge l m.length with h | h
        · rw [List.getD_eq_getElem?_getD (l := m ++ [ns]), List.getElem?_append_left h, ← List.getD_eq_getElem?_getD]
          exact hP l p (by omega) hp
        · have e : l = m.length := by omega
          subst e
          rw [List.getD_eq_getElem?_getD (l := m ++ [ns]), List.getElem?_append_right (Nat.le_refl _)]
          have := hnP p hp
          rw [← hml] at this
          simpa using this
  · rintro F acc H' hF hH' _ ⟨b1, nF, as, m, rfl, hl, hml, hf, hr, hrow, hP⟩
    exact q F as m H' hF b1 nF ⟨hH', by rw [hl, hml], hrow⟩ hml hr hf hP
end
end RG
namespace RG
open PySem PySem.Spec PyProof.Rows L2
def top (i : Nat) : Stmt := PySem.Challenge.pw_rollgates_k22_whole_plain_and_joined.main.body.getD i (.Pass ⟨0, 0, 0, 0⟩)
abbrev s_is_number : Stmt := top 11
abbrev s_need_user : Stmt := top 12
abbrev s_is_row : Stmt := top 13
abbrev s_parts_of : Stmt := top 14
abbrev s_is_condition : Stmt := top 15
abbrev s_fits : Stmt := top 16
abbrev s_is_rule : Stmt := top 17
abbrev s_are_rules : Stmt := top 18
abbrev s_need_rules : Stmt := top 19
abbrev s_share_of : Stmt := top 20
abbrev s_share : Stmt := top 21
abbrev s_plain : Stmt := top 23
abbrev s_is_shares : Stmt := top 24
abbrev s_any_of : Stmt := top 25
abbrev s_condition_for : Stmt := top 26
abbrev s_joined : Stmt := top 27
abbrev s__law_cell : Stmt := top 29
abbrev s__law_drawn : Stmt := top 30
abbrev s__law_roll : Stmt := top 31
abbrev s__law_rounds : Stmt := top 32
abbrev s__law_row : Stmt := top 33
abbrev s__law_condition : Stmt := top 34
abbrev s__law_holds : Stmt := top 35
abbrev s__law_rules : Stmt := top 36
abbrev s__law_share : Stmt := top 37
abbrev s__law_kinds : Stmt := top 38
abbrev s_law : Stmt := top 39
theorem sc_is_number : FnScope ["thing", "low", "high"] ["thing", "low", "high"] (defScope s_is_number) := ⟨rfl, rfl, rfl, by decide +kernel, rfl, by decide +kernel, by decide +kernel⟩
theorem sc_need_user : FnScope ["thing"] ["thing"] (defScope s_need_user) := ⟨rfl, rfl, rfl, by decide +kernel, rfl, by decide +kernel, by decide +kernel⟩
theorem sc_is_row : FnScope ["thing", "most", "one", "other"] ["thing", "most"] (defScope s_is_row) := ⟨rfl, rfl, rfl, by decide +kernel, rfl, by decide +kernel, by decide +kernel⟩
theorem sc_parts_of : FnScope ["thing", "deep", "good", "part", "rows"] ["thing", "deep"] (defScope s_parts_of) := ⟨rfl, rfl, rfl, by decide +kernel, rfl, by decide +kernel, by decide +kernel⟩
theorem sc_is_condition : FnScope ["thing"] ["thing"] (defScope s_is_condition) := ⟨rfl, rfl, rfl, by decide +kernel, rfl, by decide +kernel, by decide +kernel⟩
theorem sc_fits : FnScope ["condition", "land", "plan", "part", "rows"] ["condition", "land", "plan"] (defScope s_fits) := ⟨rfl, rfl, rfl, by decide +kernel, rfl, by decide +kernel, by decide +kernel⟩
theorem sc_is_rule : FnScope ["thing"] ["thing"] (defScope s_is_rule) := ⟨rfl, rfl, rfl, by decide +kernel, rfl, by decide +kernel, by decide +kernel⟩
theorem sc_are_rules : FnScope ["thing", "one"] ["thing"] (defScope s_are_rules) := ⟨rfl, rfl, rfl, by decide +kernel, rfl, by decide +kernel, by decide +kernel⟩
theorem sc_need_rules : FnScope ["thing"] ["thing"] (defScope s_need_rules) := ⟨rfl, rfl, rfl, by decide +kernel, rfl, by decide +kernel, by decide +kernel⟩
theorem sc_share_of : FnScope ["rules", "land", "plan", "condition", "many"] ["rules", "land", "plan"] (defScope s_share_of) := ⟨rfl, rfl, rfl, by decide +kernel, rfl, by decide +kernel, by decide +kernel⟩
theorem sc_share : FnScope ["rules", "user"] ["rules", "user"] (defScope s_share) := ⟨rfl, rfl, rfl, by decide +kernel, rfl, by decide +kernel, by decide +kernel⟩
theorem sc_plain : FnScope ["rules", "land", "plan"] ["rules"] (defScope s_plain) := ⟨rfl, rfl, rfl, by decide +kernel, rfl, by decide +kernel, by decide +kernel⟩
theorem sc_is_shares : FnScope ["thing", "row", "one"] ["thing"] (defScope s_is_shares) := ⟨rfl, rfl, rfl, by decide +kernel, rfl, by decide +kernel, by decide +kernel⟩
theorem sc_any_of : FnScope ["parts"] ["parts"] (defScope s_any_of) := ⟨rfl, rfl, rfl, by decide +kernel, rfl, by decide +kernel, by decide +kernel⟩
theorem sc_condition_for : FnScope ["shares", "many", "lands", "land", "row", "plan", "plans"] ["shares", "many"] (defScope s_condition_for) := ⟨rfl, rfl, rfl, by decide +kernel, rfl, by decide +kernel, by decide +kernel⟩
theorem sc_joined : FnScope ["shares", "found", "row", "many"] ["shares"] (defScope s_joined) := ⟨rfl, rfl, rfl, by decide +kernel, rfl, by decide +kernel, by decide +kernel⟩
theorem sc__law_cell : FnScope ["script", "k"] ["script", "k"] (defScope s__law_cell) := ⟨rfl, rfl, rfl, by decide +kernel, rfl, by decide +kernel, by decide +kernel⟩
theorem sc__law_drawn : FnScope ["cell", "k", "more"] ["cell", "k"] (defScope s__law_drawn) := ⟨rfl, rfl, rfl, by decide +kernel, rfl, by decide +kernel, by decide +kernel⟩
theorem sc__law_roll : FnScope ["dice", "many", "told"] ["dice", "many"] (defScope s__law_roll) := ⟨rfl, rfl, rfl, by decide +kernel, rfl, by decide +kernel, by decide +kernel⟩
theorem sc__law_rounds : FnScope ["script", "most", "k"] ["script", "most"] (defScope s__law_rounds) := ⟨rfl, rfl, rfl, by decide +kernel, rfl, by decide +kernel, by decide +kernel⟩
theorem sc__law_row : FnScope ["dice", "most", "at", "found"] ["dice", "most"] (defScope s__law_row) := ⟨rfl, rfl, rfl, by decide +kernel, rfl, by decide +kernel, by decide +kernel⟩
theorem sc__law_condition : FnScope ["dice", "deep", "way", "word", "parts", "turn"] ["dice", "deep"] (defScope s__law_condition) := ⟨rfl, rfl, rfl, by decide +kernel, rfl, by decide +kernel, by decide +kernel⟩
theorem sc__law_holds : FnScope ["condition", "land", "plan", "part"] ["condition", "land", "plan"] (defScope s__law_holds) := ⟨rfl, rfl, rfl, by decide +kernel, rfl, by decide +kernel, by decide +kernel⟩
theorem sc__law_rules : FnScope ["dice", "deep", "found", "turn", "many"] ["dice", "deep"] (defScope s__law_rules) := ⟨rfl, rfl, rfl, by decide +kernel, rfl, by decide +kernel, by decide +kernel⟩
theorem sc__law_share : FnScope ["rules", "land", "plan", "condition", "many"] ["rules", "land", "plan"] (defScope s__law_share) := ⟨rfl, rfl, rfl, by decide +kernel, rfl, by decide +kernel, by decide +kernel⟩
theorem sc__law_kinds : FnScope ["at"] [] (defScope s__law_kinds) := ⟨rfl, rfl, rfl, by decide +kernel, rfl, by decide +kernel, by decide +kernel⟩
theorem sc_law : FnScope ["script", "dice", "rules", "land", "plan", "due", "turn", "some", "shares", "row", "kept", "found"] ["script"] (defScope s_law) := ⟨rfl, rfl, rfl, by decide +kernel, rfl, by decide +kernel, by decide +kernel⟩
def d_is_number : He.DefD := ⟨("is_number", none), "is_number", "is_number", defArgs s_is_number, defBody s_is_number, defScope s_is_number, [], []⟩
def d_need_user : He.DefD := ⟨("need_user", none), "need_user", "need_user", defArgs s_need_user, defBody s_need_user, defScope s_need_user, [], []⟩
def d_is_row : He.DefD := ⟨("is_row", none), "is_row", "is_row", defArgs s_is_row, defBody s_is_row, defScope s_is_row, [], []⟩
def d_parts_of : He.DefD := ⟨("parts_of", none), "parts_of", "parts_of", defArgs s_parts_of, defBody s_parts_of, defScope s_parts_of, [], []⟩
def d_is_condition : He.DefD := ⟨("is_condition", none), "is_condition", "is_condition", defArgs s_is_condition, defBody s_is_condition, defScope s_is_condition, [], []⟩
def d_fits : He.DefD := ⟨("fits", none), "fits", "fits", defArgs s_fits, defBody s_fits, defScope s_fits, [], []⟩
def d_is_rule : He.DefD := ⟨("is_rule", none), "is_rule", "is_rule", defArgs s_is_rule, defBody s_is_rule, defScope s_is_rule, [], []⟩
def d_are_rules : He.DefD := ⟨("are_rules", none), "are_rules", "are_rules", defArgs s_are_rules, defBody s_are_rules, defScope s_are_rules, [], []⟩
def d_need_rules : He.DefD := ⟨("need_rules", none), "need_rules", "need_rules", defArgs s_need_rules, defBody s_need_rules, defScope s_need_rules, [], []⟩
def d_share_of : He.DefD := ⟨("share_of", none), "share_of", "share_of", defArgs s_share_of, defBody s_share_of, defScope s_share_of, [], []⟩
def d_share : He.DefD := ⟨("share", none), "share", "share", defArgs s_share, defBody s_share, defScope s_share, [], []⟩
def d_plain : He.DefD := ⟨("plain", none), "plain", "plain", defArgs s_plain, defBody s_plain, defScope s_plain, [], []⟩
def d_is_shares : He.DefD := ⟨("is_shares", none), "is_shares", "is_shares", defArgs s_is_shares, defBody s_is_shares, defScope s_is_shares, [], []⟩
def d_any_of : He.DefD := ⟨("any_of", none), "any_of", "any_of", defArgs s_any_of, defBody s_any_of, defScope s_any_of, [], []⟩
def d_condition_for : He.DefD := ⟨("condition_for", none), "condition_for", "condition_for", defArgs s_condition_for, defBody s_condition_for, defScope s_condition_for, [], []⟩
def d_joined : He.DefD := ⟨("joined", none), "joined", "joined", defArgs s_joined, defBody s_joined, defScope s_joined, [], []⟩
def d__law_cell : He.DefD := ⟨("_law_cell", none), "_law_cell", "_law_cell", defArgs s__law_cell, defBody s__law_cell, defScope s__law_cell, [], []⟩
def d__law_drawn : He.DefD := ⟨("_law_drawn", none), "_law_drawn", "_law_drawn", defArgs s__law_drawn, defBody s__law_drawn, defScope s__law_drawn, [], []⟩
def d__law_roll : He.DefD := ⟨("_law_roll", none), "_law_roll", "_law_roll", defArgs s__law_roll, defBody s__law_roll, defScope s__law_roll, [], []⟩
def d__law_rounds : He.DefD := ⟨("_law_rounds", none), "_law_rounds", "_law_rounds", defArgs s__law_rounds, defBody s__law_rounds, defScope s__law_rounds, [], []⟩
def d__law_row : He.DefD := ⟨("_law_row", none), "_law_row", "_law_row", defArgs s__law_row, defBody s__law_row, defScope s__law_row, [], []⟩
def d__law_condition : He.DefD := ⟨("_law_condition", none), "_law_condition", "_law_condition", defArgs s__law_condition, defBody s__law_condition, defScope s__law_condition, [], []⟩
def d__law_holds : He.DefD := ⟨("_law_holds", none), "_law_holds", "_law_holds", defArgs s__law_holds, defBody s__law_holds, defScope s__law_holds, [], []⟩
def d__law_rules : He.DefD := ⟨("_law_rules", none), "_law_rules", "_law_rules", defArgs s__law_rules, defBody s__law_rules, defScope s__law_rules, [], []⟩
def d__law_share : He.DefD := ⟨("_law_share", none), "_law_share", "_law_share", defArgs s__law_share, defBody s__law_share, defScope s__law_share, [], []⟩
def d__law_kinds : He.DefD := ⟨("_law_kinds", none), "_law_kinds", "_law_kinds", defArgs s__law_kinds, defBody s__law_kinds, defScope s__law_kinds, [], []⟩
def d_law : He.DefD := ⟨("law", none), "law", "law", defArgs s_law, defBody s_law, defScope s_law, [], []⟩
def fnl : List He.DefD := [d_is_number, d_need_user, d_is_row, d_parts_of, d_is_condition, d_fits, d_is_rule, d_are_rules, d_need_rules, d_share_of, d_share, d_plain, d_is_shares, d_any_of, d_condition_for, d_joined, d__law_cell, d__law_drawn, d__law_roll, d__law_rounds, d__law_row, d__law_condition, d__law_holds, d__law_rules, d__law_share, d__law_kinds, d_law]
def fal : List He.Fa := [.glo "is_number", .glo "need_user", .glo "is_row", .glo "parts_of", .glo "is_condition", .glo "fits", .glo "is_rule", .glo "are_rules", .glo "need_rules", .glo "share_of", .glo "share", .glo "plain", .glo "is_shares", .glo "any_of", .glo "condition_for", .glo "joined", .glo "_law_cell", .glo "_law_drawn", .glo "_law_roll", .glo "_law_rounds", .glo "_law_row", .glo "_law_condition", .glo "_law_holds", .glo "_law_rules", .glo "_law_share", .glo "_law_kinds", .glo "law", .glo "GateError", .exc "GateError", .glo "BadUser", .exc "BadUser", .glo "BadRules", .exc "BadRules", .free "ValueError", .free "all", .free "any", .free "bool", .free "enumerate", .free "int", .free "isinstance", .free "len", .free "list", .free "max", .free "min", .free "range", .free "sorted", .free "str", .free "sum", .free "tuple", .free "zip", .int "GREATEST" 1000000000000, .int "LANDS" 6, .int "PLANS" 4, .int "PLACES" 100, .int "MOST_DEEP" 5, .int "MOST_PARTS" 40]
def tfl : List He.Defn := []
def exl (K : PySem.W.Frag) : Bool := true
structure Tx (K : PySem.W.Frag) (mg : Str → Option Value) : Prop where
  G_is_number : mg "is_number" = some (.ref (He.ga K "is_number"))
  G_need_user : mg "need_user" = some (.ref (He.ga K "need_user"))
  G_is_row : mg "is_row" = some (.ref (He.ga K "is_row"))
  G_parts_of : mg "parts_of" = some (.ref (He.ga K "parts_of"))
  G_is_condition : mg "is_condition" = some (.ref (He.ga K "is_condition"))
  G_fits : mg "fits" = some (.ref (He.ga K "fits"))
  G_is_rule : mg "is_rule" = some (.ref (He.ga K "is_rule"))
  G_are_rules : mg "are_rules" = some (.ref (He.ga K "are_rules"))
  G_need_rules : mg "need_rules" = some (.ref (He.ga K "need_rules"))
  G_share_of : mg "share_of" = some (.ref (He.ga K "share_of"))
  G_share : mg "share" = some (.ref (He.ga K "share"))
  G_plain : mg "plain" = some (.ref (He.ga K "plain"))
  G_is_shares : mg "is_shares" = some (.ref (He.ga K "is_shares"))
  G_any_of : mg "any_of" = some (.ref (He.ga K "any_of"))
  G_condition_for : mg "condition_for" = some (.ref (He.ga K "condition_for"))
  G_joined : mg "joined" = some (.ref (He.ga K "joined"))
  G__law_cell : mg "_law_cell" = some (.ref (He.ga K "_law_cell"))
  G__law_drawn : mg "_law_drawn" = some (.ref (He.ga K "_law_drawn"))
  G__law_roll : mg "_law_roll" = some (.ref (He.ga K "_law_roll"))
  G__law_rounds : mg "_law_rounds" = some (.ref (He.ga K "_law_rounds"))
  G__law_row : mg "_law_row" = some (.ref (He.ga K "_law_row"))
  G__law_condition : mg "_law_condition" = some (.ref (He.ga K "_law_condition"))
  G__law_holds : mg "_law_holds" = some (.ref (He.ga K "_law_holds"))
  G__law_rules : mg "_law_rules" = some (.ref (He.ga K "_law_rules"))
  G__law_share : mg "_law_share" = some (.ref (He.ga K "_law_share"))
  G__law_kinds : mg "_law_kinds" = some (.ref (He.ga K "_law_kinds"))
  G_law : mg "law" = some (.ref (He.ga K "law"))
  G_GateError : mg "GateError" = some (.ref (He.ga K "GateError"))
  X_GateError : Exn K mg "GateError"
  G_BadUser : mg "BadUser" = some (.ref (He.ga K "BadUser"))
  X_BadUser : Exn K mg "BadUser"
  G_BadRules : mg "BadRules" = some (.ref (He.ga K "BadRules"))
  X_BadRules : Exn K mg "BadRules"
  Z_ValueError : mg "ValueError" = none
  Z_all : mg "all" = none
  Z_any : mg "any" = none
  Z_bool : mg "bool" = none
  Z_enumerate : mg "enumerate" = none
  Z_int : mg "int" = none
  Z_isinstance : mg "isinstance" = none
  Z_len : mg "len" = none
  Z_list : mg "list" = none
  Z_max : mg "max" = none
  Z_min : mg "min" = none
  Z_range : mg "range" = none
  Z_sorted : mg "sorted" = none
  Z_str : mg "str" = none
  Z_sum : mg "sum" = none
  Z_tuple : mg "tuple" = none
  Z_zip : mg "zip" = none
  I_GREATEST : ∃ t, mg "GREATEST" = some (.int 1000000000000 t)
  I_LANDS : ∃ t, mg "LANDS" = some (.int 6 t)
  I_PLANS : ∃ t, mg "PLANS" = some (.int 4 t)
  I_PLACES : ∃ t, mg "PLACES" = some (.int 100 t)
  I_MOST_DEEP : ∃ t, mg "MOST_DEEP" = some (.int 5 t)
  I_MOST_PARTS : ∃ t, mg "MOST_PARTS" = some (.int 40 t)
  F_is_number : FnAt K "is_number" s_is_number
  F_need_user : FnAt K "need_user" s_need_user
  F_is_row : FnAt K "is_row" s_is_row
  F_parts_of : FnAt K "parts_of" s_parts_of
  F_is_condition : FnAt K "is_condition" s_is_condition
  F_fits : FnAt K "fits" s_fits
  F_is_rule : FnAt K "is_rule" s_is_rule
  F_are_rules : FnAt K "are_rules" s_are_rules
  F_need_rules : FnAt K "need_rules" s_need_rules
  F_share_of : FnAt K "share_of" s_share_of
  F_share : FnAt K "share" s_share
  F_plain : FnAt K "plain" s_plain
  F_is_shares : FnAt K "is_shares" s_is_shares
  F_any_of : FnAt K "any_of" s_any_of
  F_condition_for : FnAt K "condition_for" s_condition_for
  F_joined : FnAt K "joined" s_joined
  F__law_cell : FnAt K "_law_cell" s__law_cell
  F__law_drawn : FnAt K "_law_drawn" s__law_drawn
  F__law_roll : FnAt K "_law_roll" s__law_roll
  F__law_rounds : FnAt K "_law_rounds" s__law_rounds
  F__law_row : FnAt K "_law_row" s__law_row
  F__law_condition : FnAt K "_law_condition" s__law_condition
  F__law_holds : FnAt K "_law_holds" s__law_holds
  F__law_rules : FnAt K "_law_rules" s__law_rules
  F__law_share : FnAt K "_law_share" s__law_share
  F__law_kinds : FnAt K "_law_kinds" s__law_kinds
  F_law : FnAt K "law" s_law
theorem tx_mk {K : PySem.W.Frag} {mg : Str → Option Value} {h : Heap} {w : World} (X : K.In h) (G : h.Ns mainGlobals mg) (c : He.SaysX fal fnl [] tfl exl w h K) : Tx K mg where
  G_is_number := He.glo_ok X G (c.t.d.fact 0 (f := .glo "is_number") rfl)
  G_need_user := He.glo_ok X G (c.t.d.fact 1 (f := .glo "need_user") rfl)
  G_is_row := He.glo_ok X G (c.t.d.fact 2 (f := .glo "is_row") rfl)
  G_parts_of := He.glo_ok X G (c.t.d.fact 3 (f := .glo "parts_of") rfl)
  G_is_condition := He.glo_ok X G (c.t.d.fact 4 (f := .glo "is_condition") rfl)
  G_fits := He.glo_ok X G (c.t.d.fact 5 (f := .glo "fits") rfl)
  G_is_rule := He.glo_ok X G (c.t.d.fact 6 (f := .glo "is_rule") rfl)
  G_are_rules := He.glo_ok X G (c.t.d.fact 7 (f := .glo "are_rules") rfl)
  G_need_rules := He.glo_ok X G (c.t.d.fact 8 (f := .glo "need_rules") rfl)
  G_share_of := He.glo_ok X G (c.t.d.fact 9 (f := .glo "share_of") rfl)
  G_share := He.glo_ok X G (c.t.d.fact 10 (f := .glo "share") rfl)
  G_plain := He.glo_ok X G (c.t.d.fact 11 (f := .glo "plain") rfl)
  G_is_shares := He.glo_ok X G (c.t.d.fact 12 (f := .glo "is_shares") rfl)
  G_any_of := He.glo_ok X G (c.t.d.fact 13 (f := .glo "any_of") rfl)
  G_condition_for := He.glo_ok X G (c.t.d.fact 14 (f := .glo "condition_for") rfl)
  G_joined := He.glo_ok X G (c.t.d.fact 15 (f := .glo "joined") rfl)
  G__law_cell := He.glo_ok X G (c.t.d.fact 16 (f := .glo "_law_cell") rfl)
  G__law_drawn := He.glo_ok X G (c.t.d.fact 17 (f := .glo "_law_drawn") rfl)
  G__law_roll := He.glo_ok X G (c.t.d.fact 18 (f := .glo "_law_roll") rfl)
  G__law_rounds := He.glo_ok X G (c.t.d.fact 19 (f := .glo "_law_rounds") rfl)
  G__law_row := He.glo_ok X G (c.t.d.fact 20 (f := .glo "_law_row") rfl)
  G__law_condition := He.glo_ok X G (c.t.d.fact 21 (f := .glo "_law_condition") rfl)
  G__law_holds := He.glo_ok X G (c.t.d.fact 22 (f := .glo "_law_holds") rfl)
  G__law_rules := He.glo_ok X G (c.t.d.fact 23 (f := .glo "_law_rules") rfl)
  G__law_share := He.glo_ok X G (c.t.d.fact 24 (f := .glo "_law_share") rfl)
  G__law_kinds := He.glo_ok X G (c.t.d.fact 25 (f := .glo "_law_kinds") rfl)
  G_law := He.glo_ok X G (c.t.d.fact 26 (f := .glo "law") rfl)
  G_GateError := He.glo_ok X G (c.t.d.fact 27 (f := .glo "GateError") rfl)
  X_GateError := ⟨He.glo_ok X G (c.t.d.fact 27 (f := .glo "GateError") rfl), c.t.d.fact 28 (f := .exc "GateError") rfl⟩
  G_BadUser := He.glo_ok X G (c.t.d.fact 29 (f := .glo "BadUser") rfl)
  X_BadUser := ⟨He.glo_ok X G (c.t.d.fact 29 (f := .glo "BadUser") rfl), c.t.d.fact 30 (f := .exc "BadUser") rfl⟩
  G_BadRules := He.glo_ok X G (c.t.d.fact 31 (f := .glo "BadRules") rfl)
  X_BadRules := ⟨He.glo_ok X G (c.t.d.fact 31 (f := .glo "BadRules") rfl), c.t.d.fact 32 (f := .exc "BadRules") rfl⟩
  Z_ValueError := He.free_ok X G (c.t.d.fact 33 (f := .free "ValueError") rfl)
  Z_all := He.free_ok X G (c.t.d.fact 34 (f := .free "all") rfl)
  Z_any := He.free_ok X G (c.t.d.fact 35 (f := .free "any") rfl)
  Z_bool := He.free_ok X G (c.t.d.fact 36 (f := .free "bool") rfl)
  Z_enumerate := He.free_ok X G (c.t.d.fact 37 (f := .free "enumerate") rfl)
  Z_int := He.free_ok X G (c.t.d.fact 38 (f := .free "int") rfl)
  Z_isinstance := He.free_ok X G (c.t.d.fact 39 (f := .free "isinstance") rfl)
  Z_len := He.free_ok X G (c.t.d.fact 40 (f := .free "len") rfl)
  Z_list := He.free_ok X G (c.t.d.fact 41 (f := .free "list") rfl)
  Z_max := He.free_ok X G (c.t.d.fact 42 (f := .free "max") rfl)
  Z_min := He.free_ok X G (c.t.d.fact 43 (f := .free "min") rfl)
  Z_range := He.free_ok X G (c.t.d.fact 44 (f := .free "range") rfl)
  Z_sorted := He.free_ok X G (c.t.d.fact 45 (f := .free "sorted") rfl)
  Z_str := He.free_ok X G (c.t.d.fact 46 (f := .free "str") rfl)
  Z_sum := He.free_ok X G (c.t.d.fact 47 (f := .free "sum") rfl)
  Z_tuple := He.free_ok X G (c.t.d.fact 48 (f := .free "tuple") rfl)
  Z_zip := He.free_ok X G (c.t.d.fact 49 (f := .free "zip") rfl)
  I_GREATEST := He.int_ok X G (c.t.d.fact 50 (f := .int "GREATEST" 1000000000000) rfl)
  I_LANDS := He.int_ok X G (c.t.d.fact 51 (f := .int "LANDS" 6) rfl)
  I_PLANS := He.int_ok X G (c.t.d.fact 52 (f := .int "PLANS" 4) rfl)
  I_PLACES := He.int_ok X G (c.t.d.fact 53 (f := .int "PLACES" 100) rfl)
  I_MOST_DEEP := He.int_ok X G (c.t.d.fact 54 (f := .int "MOST_DEEP" 5) rfl)
  I_MOST_PARTS := He.int_ok X G (c.t.d.fact 55 (f := .int "MOST_PARTS" 40) rfl)
  F_is_number := c.t.d.def_ 0 (d := d_is_number) rfl
  F_need_user := c.t.d.def_ 1 (d := d_need_user) rfl
  F_is_row := c.t.d.def_ 2 (d := d_is_row) rfl
  F_parts_of := c.t.d.def_ 3 (d := d_parts_of) rfl
  F_is_condition := c.t.d.def_ 4 (d := d_is_condition) rfl
  F_fits := c.t.d.def_ 5 (d := d_fits) rfl
  F_is_rule := c.t.d.def_ 6 (d := d_is_rule) rfl
  F_are_rules := c.t.d.def_ 7 (d := d_are_rules) rfl
  F_need_rules := c.t.d.def_ 8 (d := d_need_rules) rfl
  F_share_of := c.t.d.def_ 9 (d := d_share_of) rfl
  F_share := c.t.d.def_ 10 (d := d_share) rfl
  F_plain := c.t.d.def_ 11 (d := d_plain) rfl
  F_is_shares := c.t.d.def_ 12 (d := d_is_shares) rfl
  F_any_of := c.t.d.def_ 13 (d := d_any_of) rfl
  F_condition_for := c.t.d.def_ 14 (d := d_condition_for) rfl
  F_joined := c.t.d.def_ 15 (d := d_joined) rfl
  F__law_cell := c.t.d.def_ 16 (d := d__law_cell) rfl
  F__law_drawn := c.t.d.def_ 17 (d := d__law_drawn) rfl
  F__law_roll := c.t.d.def_ 18 (d := d__law_roll) rfl
  F__law_rounds := c.t.d.def_ 19 (d := d__law_rounds) rfl
  F__law_row := c.t.d.def_ 20 (d := d__law_row) rfl
  F__law_condition := c.t.d.def_ 21 (d := d__law_condition) rfl
  F__law_holds := c.t.d.def_ 22 (d := d__law_holds) rfl
  F__law_rules := c.t.d.def_ 23 (d := d__law_rules) rfl
  F__law_share := c.t.d.def_ 24 (d := d__law_share) rfl
  F__law_kinds := c.t.d.def_ 25 (d := d__law_kinds) rfl
  F_law := c.t.d.def_ 26 (d := d_law) rfl
abbrev Rw : PySem.W.OpenRow := PySem.W.OpenLaw.row PySem.Challenge.rw_rollgates_k22_whole_plain_and_joined
abbrev hkl : PySem.W.Hook := He.hookX 5 fal fnl [] tfl exl
def obl (s : PySem.W.SharedT) : He.AlX := He.obsX 5 fal fnl [] tfl exl (HandSHeadRun.getT s)
theorem obl_eq (s : PySem.W.SharedT) : obl s = hkl.obs s.abs := He.obsX_eq (HandSHeadRun.getT_eq s)
def nm0 : List Str := ["__name__", "GateError", "BadUser", "BadRules", "GREATEST", "LANDS", "PLANS", "PLACES", "MOST_DEEP", "MOST_PARTS", "is_number", "need_user", "is_row", "parts_of", "is_condition", "fits", "is_rule", "are_rules", "need_rules", "share_of", "share", "plain", "is_shares", "any_of", "condition_for", "joined", "_law_cell", "_law_drawn", "_law_roll", "_law_rounds"]
def nm1 : List Str := ["_law_row", "_law_condition", "_law_holds", "_law_rules", "_law_share", "_law_kinds"]
def nml : List Str := nm0 ++ nm1
theorem runl (w : World) : HandSHeadRun.RunEq Rw (PySem.W.view Rw.prog [39]) hkl obl 4220 nml w := by
  intro os
  kernel_rfl
end RG
local macro_rules | `(tactic| walk_at "1") => `(tactic| first
  | with_reducible refine RG.w_seq ?_
  | with_reducible refine RG.w_set ?_
  | with_reducible refine RG.w_asg ?_
  | with_reducible refine RG.w_ret ?_
  | with_reducible refine RG.w_ifs ?_
  | with_reducible refine RG.w_drop ?_
  | with_reducible refine RG.w_next ?_
  | with_reducible refine RG.w_par ?_
  | with_reducible refine RG.w_par3 ?_
  | with_reducible refine RG.w_retN ?_
  | ((with_reducible show L2.tVar _ _ _ _); refine RG.w_var rfl ?_)
  | with_reducible refine RG.w_c ?_
  | with_reducible refine RG.w_op ?_
  | with_reducible refine RG.w_I0 ?_
  | with_reducible refine RG.w_test ?_
  | with_reducible refine RG.w_B ?_
  | with_reducible refine RG.w_and ?_
  | with_reducible refine RG.w_or ?_
  | with_reducible refine RG.w_not ?_
  | with_reducible refine RG.w_cons ?_
  | with_reducible refine RG.w_nil ?_
  | with_reducible refine RG.w_call ?_
  | with_reducible refine RG.w_cb ?_
  | with_reducible refine RG.w_chain ?_
  | with_reducible refine RG.w_andV ?_
  | with_reducible refine RG.w_orV ?_
  | with_reducible refine RG.w_notV ?_
  | with_reducible refine RG.w_if ?_
  | with_reducible refine RG.w_eqI ?_
  | with_reducible refine RG.w_neI ?_
  | with_reducible refine RG.w_eqS ?_
  | with_reducible refine RG.w_isN ?_
  | with_reducible refine RG.w_notN ?_
  | with_reducible refine RG.w_un ?_
  | with_reducible refine RG.w_U ?_
  | with_reducible refine RG.w_tup ?_
  | with_reducible refine RG.w_lst ?_
  | with_reducible refine RG.w_sl ?_
  | with_reducible refine RG.w_part ?_
  | with_reducible refine RG.w_noPart ?_
  | with_reducible refine RG.w_bm ?_
  | with_reducible refine RG.w_bm0 ?_
  | with_reducible refine RG.w_sub ?_
  | with_reducible refine RG.w_name ?_
  | with_reducible refine RG.w_max2 ?_
  | with_reducible refine RG.w_min2 ?_
  | with_reducible refine RG.w_intI ?_
  | with_reducible refine RG.w_intB ?_
  | with_reducible refine RG.w_rz ?_
  | with_reducible refine RG.w_lc ?_
  | with_reducible refine RG.w_for ?_
  | with_reducible refine RG.w_rng1 ?_
  | with_reducible refine RG.w_rng2 ?_
  | with_reducible refine RG.w_iList ?_
  | with_reducible refine RG.w_iTup ?_
  | with_reducible refine RG.w_iEnum ?_
  | with_reducible refine RG.w_iZip ?_
  | with_reducible refine RG.w_yes ?_
  | with_reducible refine RG.w_enumT ?_
  | with_reducible refine RG.w_zipA ?_
  | with_reducible refine RG.w_lrg ?_
  | with_reducible refine RG.w_rg1 ?_
  | with_reducible refine RG.w_gcons ?_
  | with_reducible refine RG.w_gnil ?_
  | with_reducible refine RG.if_t rfl ?_
  | with_reducible refine RG.if_f rfl ?_
  | (with_reducible refine ⟨_, rfl, ?_⟩)
  | (with_reducible refine ⟨_, _, rfl, ?_⟩))
local macro_rules | `(tactic| walk_at "c") => `(tactic| dsimp only [L2.wipe, List.set_cons_zero, List.set_cons_succ, List.append_nil, List.cons_append, List.nil_append, Bool.not_true, Bool.not_false])
local macro_rules | `(tactic| walk_at "0") => `(tactic| simp only [L2.start, List.map_cons, List.map_nil, List.length_cons, List.length_nil, Nat.reduceAdd, Nat.reduceSub, Nat.sub_self, List.replicate_succ, List.replicate_zero, List.cons_append, List.nil_append, List.append_nil])
local macro_rules | `(tactic| walk_at "g") => `(tactic| repeat (walk_at "1"; (try walk_at "c")))
local macro_rules | `(tactic| walk_at "s1") => `(tactic| first
  | with_reducible refine RG.w_seq ?_
  | with_reducible refine RG.w_set ?_
  | with_reducible refine RG.w_ret ?_
  | with_reducible refine RG.w_drop ?_
  | with_reducible refine RG.w_ifs ?_
  | with_reducible refine RG.w_next ?_)
local macro_rules | `(tactic| walk_at "s") => `(tactic| repeat (walk_at "s1"; (try walk_at "c")))
local macro_rules | `(tactic| walk_at "p1") => `(tactic| first
  | with_reducible refine RG.w_seq ?_
  | with_reducible refine RG.w_set ?_
  | with_reducible refine RG.w_asg ?_
  | with_reducible refine RG.w_ret ?_
  | with_reducible refine RG.w_drop ?_
  | with_reducible refine RG.w_ifs ?_
  | with_reducible refine RG.w_for ?_
  | with_reducible refine RG.w_gcons ?_
  | with_reducible refine RG.w_gnil ?_
  | with_reducible refine RG.w_name ?_
  | with_reducible refine RG.w_next ?_)
local macro_rules | `(tactic| walk_at "p") => `(tactic| (try walk_at "c") <;> repeat (walk_at "p1"; (try walk_at "c")))
local macro_rules | `(tactic| walk_at "d") => `(tactic| repeat (first
  | exact RG.evd_non
  | exact RG.evd_int
  | exact RG.evd_bl
  | exact RG.evd_str
  | exact RG.evd_neg
  | exact RG.evds_nil
  | exact RG.evd_vint rfl
  | (apply RG.evd_var rfl; assumption)
  | apply RG.evds_cons
  | apply RG.evd_tup
  | apply RG.evd_lst
  | apply RG.evl_lst
  | apply RG.evd_list
  | exact RG.len_ok rfl))
local macro_rules | `(tactic| walk_at "gd") => `(tactic| repeat (first
  | assumption
  | exact RG.gd_non
  | exact RG.gd_int
  | exact RG.gd_bool
  | exact RG.gd_str (by first | rfl | decide +kernel)
  | exact RG.gds_nil
  | refine RG.gds_cons ?_ ?_
  | refine RG.gd_tup ?_ ?_
  | refine RG.gd_list ?_ ?_
  | exact RG.len_ok rfl))
local macro_rules | `(tactic| walk_at "al") => `(tactic| ((repeat (first | exact RG.all_nil | refine RG.all_consT ?_ ⟨?_, ?_⟩)) <;> first | rfl | (walk_at "gd"; done) | skip))
local macro_rules | `(tactic| walk_at "k") => `(tactic| repeat (first
  | exact RG.evk_non
  | exact RG.evk_int
  | exact RG.evk_bl
  | exact RG.evk_str
  | exact RG.evk_neg
  | exact RG.evks_nil
  | exact RG.evk_vint rfl
  | (apply RG.evk_var rfl (by assumption); assumption)
  | apply RG.evks_cons (by assumption)
  | apply RG.evk_tup (by assumption)
  | apply RG.evk_lst (by assumption)
  | apply RG.evkl_lst
  | apply RG.evk_list (by assumption)
  | exact RG.len_ok rfl))
local macro_rules | `(tactic| walk_at "n") => `(tactic| repeat (first
  | exact RG.evn_non
  | exact RG.evn_int
  | exact RG.evn_bl
  | exact RG.evn_str
  | exact RG.evn_neg
  | exact RG.evns_nil
  | exact RG.evn_vint rfl
  | (apply RG.evn_var rfl; assumption)
  | apply RG.evns_cons
  | apply RG.evn_tup
  | apply RG.evn_lst
  | apply RG.evnl_lst
  | exact RG.len_ok rfl))
namespace RG
open PySem PySem.Spec PyProof.Rows L2
section
variable {P : Program} {w : World} {K : PySem.W.Frag} {mg : Str → Option Value} {base : Heap}
theorem places_perm {b s t : Int} (h2 : s % 2 ≠ 0) (h5 : s % 5 ≠ 0) (hs0 : 0 ≤ s) (hs1 : s ≤ 99) {i j : Nat} (hi : i < 100) (hj : j < 100) (e : ((b + (i : Int)) * s + t) % 100 = ((b + (j : Int)) * s + t) % 100) : i = j := by
  have h : (((i : Int) - j) * s) % 100 = 0 := by
    have e2 : (((b + (i : Int)) * s + t) - ((b + (j : Int)) * s + t)) % 100 = 0 := by
      rw [Int.sub_emod, e]
      simp
    have e3 : (((b + (i : Int)) * s + t) - ((b + (j : Int)) * s + t)) = ((i : Int) - j) * s := by
      rw [Int.add_mul, Int.add_mul, Int.sub_mul]
      omega
    rw [e3] at e2
    exact e2
  generalize hd : (i : Int) - j = d at h
  have d0 : -99 ≤ d ∧ d ≤ 99 := by omega
  have key : ∀ x : Fin 100, ∀ y : Fin 199, (x.val : Int) % 2 ≠ 0 → (x.val : Int) % 5 ≠ 0 → (((y.val : Int) - 99) * (x.val : Int)) % 100 = 0 → (y.val : Int) = 99 := by decide +kernel
  have k := key ⟨s.toNat, by omega⟩ ⟨(d + 99).toNat, by omega⟩
  have es : (((⟨s.toNat, by omega⟩ : Fin 100).val : Nat) : Int) = s := by
    show ((s.toNat : Nat) : Int) = s
    omega
  have ed : (((⟨(d + 99).toNat, by omega⟩ : Fin 199).val : Nat) : Int) = d + 99 := by
    show (((d + 99).toNat : Nat) : Int) = d + 99
    omega
  rw [es, ed] at k
  have k2 := k h2 h5 (by rw [show d + 99 - 99 = d by omega]; exact h)
  omega
/-- the places of a hundred numbers one behind the other -/
def row100 (b s t : Int) (n : Nat) : List Int := (List.range n).map fun (i : Nat) => ((b + (i : Int)) * s + t) % 100
theorem row100_succ (b s t : Int) (n : Nat) : row100 b s t (n + 1) = row100 b s t n ++ [((b + (n : Int)) * s + t) % 100] := by
  unfold row100
  rw [List.range_succ, List.map_append]
  rfl
theorem row100_nodup {b s t : Int} (h2 : s % 2 ≠ 0) (h5 : s % 5 ≠ 0) (hs0 : 0 ≤ s) (hs1 : s ≤ 99) : (row100 b s t 100).Nodup := by
  unfold row100
  refine List.pairwise_map.mpr (List.Pairwise.imp_of_mem ?_ List.nodup_range)
  intro i j hi hj hne e
  exact hne (places_perm h2 h5 hs0 hs1 (List.mem_range.mp hi) (List.mem_range.mp hj) e)
theorem row100_mem {b s t : Int} {x : Int} (h : x ∈ row100 b s t 100) : 0 ≤ x ∧ x < 100 := by
  unfold row100 at h
  obtain ⟨i, _, rfl⟩ := List.mem_map.mp h
  exact ⟨Int.emod_nonneg _ (by decide), Int.emod_lt_of_pos _ (by decide)⟩
def upto (n : Nat) : List Int := (List.range n).map fun (i : Nat) => (i : Int)
/-- a rising list of hundred unlike numbers below a hundred is 0 .. 99 -/
theorem sorted_is : ∀ (n : Nat) (l : List Int), l.length = n → l.Pairwise (· ≤ ·) → l.Nodup → (∀ x ∈ l, 0 ≤ x ∧ x < n) → l = upto n := by
  intro n
  induction n with
  | zero =>
    intro l h _ _ _
    cases l with
    | nil => rfl
    | cons x r => simp at h
  | succ n ih =>
    intro l hl hp hn hm
    rcases List.eq_nil_or_concat l with rfl | ⟨r, x, rfl⟩
    · simp at hl
    · simp only [List.concat_eq_append] at hl hp hn hm ⊢
      have hrl : r.length = n := by simpa using hl
      obtain ⟨p1, p2, p3⟩ := List.pairwise_append.mp hp
      obtain ⟨n1, n2, n3⟩ := List.pairwise_append.mp hn
      have hlt : ∀ y ∈ r, y < x := fun y hy => by
        have a1 : y ≤ x := p3 y hy x (by simp)
        have a2 : y ≠ x := n3 y hy x (by simp)
        omega
      have hx := hm x (by simp)
      have hr : ∀ y ∈ r, 0 ≤ y ∧ y < n := fun y hy => by
        have a1 := hm y (by simp [hy])
        have a2 := hlt y hy
        have a3 := hx.2
        omega
      have er := ih r hrl p1 n1 hr
      have hxn : x = n := by
        rcases Nat.eq_zero_or_pos n with h0 | h0
        · omega
        · have hmem : ((n - 1 : Nat) : Int) ∈ r := by
            rw [er]
            exact List.mem_map.mpr ⟨n - 1, List.mem_range.mpr (by omega), rfl⟩
          have := hlt _ hmem
          omega
      rw [er, hxn]
      unfold upto
      rw [List.range_succ, List.map_append]
      rfl
theorem row100_perm {b s t : Int} (h2 : s % 2 ≠ 0) (h5 : s % 5 ≠ 0) (hs0 : 0 ≤ s) (hs1 : s ≤ 99) : (row100 b s t 100).Perm (upto 100) := by
  have hp := List.mergeSort_perm (row100 b s t 100) (fun a b => decide (a ≤ b))
  have hs : ((row100 b s t 100).mergeSort fun a b => decide (a ≤ b)).Pairwise (· ≤ ·) := by
    have := List.pairwise_mergeSort (le := fun a b : Int => decide (a ≤ b)) (fun a b c h1 h2 => by simp at *; omega) (fun a b => by simp; omega) (row100 b s t 100)
    exact this.imp fun h => by simpa using h
  have e : ((row100 b s t 100).mergeSort fun a b => decide (a ≤ b)) = upto 100 := by
    refine sorted_is 100 _ ?_ hs (hp.nodup_iff.mpr (row100_nodup h2 h5 hs0 hs1)) fun x hx => row100_mem (hp.mem_iff.mp hx)
    rw [hp.length_eq]
    simp [row100]
  rw [← e]
  exact hp.symm
theorem upto_below : ∀ m : Fin 101, ((upto 100).filter fun x => decide (x < (m.val : Int))).length = m.val := by decide +kernel
/-- just m of a hundred places are below m -/
theorem row100_below {b s t m : Int} (h2 : s % 2 ≠ 0) (h5 : s % 5 ≠ 0) (hs0 : 0 ≤ s) (hs1 : s ≤ 99) (m0 : 0 ≤ m) (m1 : m ≤ 100) : (((row100 b s t 100).filter fun x => decide (x < m)).length : Int) = m := by
  have h := ((row100_perm (b := b) (t := t) h2 h5 hs0 hs1).filter fun x => decide (x < m)).length_eq
  have k := upto_below ⟨m.toNat, by omega⟩
  have e : (((⟨m.toNat, by omega⟩ : Fin 101).val : Nat) : Int) = m := by
    show ((m.toNat : Nat) : Int) = m
    omega
  rw [e] at k
  rw [h, k]
  exact e
/-- a whole number between -/
def isNum (d : PyData) (lo hi : Int) : Bool := match d with
  | .int i => decide (lo ≤ i) && decide (i ≤ hi)
  | _ => false
def spIsNum (K : PySem.W.Frag) : Sp := fun vs H Q _ => ∃ (v : V) (d : PyData) (lo hi : Int), vs = [v, .int lo, .int hi] ∧ Dp K H v d ∧ Q (.bl (isNum d lo hi)) H
def spRest : Sp := fun vs H Q _ => ∃ (n m : Int), vs = [.int n, .int m] ∧ 0 < m ∧ m < 1073741824 ∧ Q (.int (n % m)) H
theorem rest_eq (n m : Int) : n - n / m * m = n % m := by
  rw [Int.emod_def, Int.mul_comm m]
theorem divW {i j : Int} (h : 0 < j) (h2 : j < 18446744073709551616) : CDivW i j := wide_div (b := 64) h (by omega) (by decide) (by decide)
def isUser (d : PyData) : Bool := match d with
  | .tuple [a, b, c] => isNum a 0 1000000000000 && (isNum b 0 5 && isNum c 0 3)
  | _ => false
def spNeedUser (K : PySem.W.Frag) : Sp := fun vs H Q E => ∃ (v : V) (d : PyData), vs = [v] ∧ Dp K H v d ∧ (isUser d = true → Q .non H) ∧ (isUser d = false → E (.ref (He.ga K "BadUser")) none H)
theorem isUser_len {ds : List PyData} (h : ds.length ≠ 3) : isUser (.tuple ds) = false := by
  match ds, h with
  | [], _ => rfl
  | [_], _ => rfl
  | [_, _], _ => rfl
  | [_, _, _], h => exact absurd rfl h
  | _ :: _ :: _ :: _ :: _, _ => rfl
def isDeal (d : PyData) : Bool := match d with
  | .tuple [.int a, .int b] => (decide (0 ≤ a) && decide (a ≤ 99)) && ((decide (0 ≤ b) && decide (b ≤ 99)) && (!decide (a % 2 = 0) && !decide (a % 5 = 0)))
  | _ => false
def spNeedDeal (K : PySem.W.Frag) : Sp := fun vs H Q E => ∃ (v : V) (d : PyData), vs = [v] ∧ Dp K H v d ∧ (isDeal d = true → Q .non H) ∧ (isDeal d = false → E (.ref (He.ga K "BadDeal")) none H)
theorem isDeal_len {ds : List PyData} (h : ds.length ≠ 2) : isDeal (.tuple ds) = false := by
  unfold isDeal
  split
  · rename_i e
    cases e
    exact absurd rfl h
  · rfl
theorem isDeal_a {a b : PyData} (h : isNum a 0 99 = false) : isDeal (.tuple [a, b]) = false := by
  unfold isDeal
  split
  · rename_i e
    cases e
    simp only [isNum] at h
    simp only [h, Bool.false_and]
  · rfl
theorem isDeal_b {a b : PyData} (h : isNum b 0 99 = false) : isDeal (.tuple [a, b]) = false := by
  unfold isDeal
  split
  · rename_i e
    cases e
    simp only [isNum] at h
    simp only [h, Bool.false_and, Bool.and_false]
  · rfl
theorem isNum_int {d : PyData} {lo hi : Int} (h : isNum d lo hi = true) : ∃ i, d = .int i ∧ lo ≤ i ∧ i ≤ hi := by
  unfold isNum at h
  split at h
  · rename_i i
    simp at h
    exact ⟨i, rfl, h.1, h.2⟩
  · cases h
def spPlaceOf (K : PySem.W.Frag) : Sp := fun vs H Q _ => ∃ (n : Int) (v : V) (s t : Int), vs = [.int n, v] ∧ Dp K H v (.tuple [.int s, .int t]) ∧ 0 ≤ s ∧ s ≤ 99 ∧ Q (.int ((n * s + t) % 100)) H
def placeD : PyData → PyData → Int
  | .tuple (.int n :: _), .tuple [.int s, .int t] => (n * s + t) % 100
  | _, _ => 0
def spPlace (K : PySem.W.Frag) : Sp := fun vs H Q E => ∃ (u v : V) (d e : PyData), vs = [u, v] ∧ Dp K H u d ∧ Dp K H v e ∧ (isUser d = true → isDeal e = true → Q (.int (placeD d e)) H) ∧
  (isUser d = false → E (.ref (He.ga K "BadUser")) none H) ∧ (isUser d = true → isDeal e = false → E (.ref (He.ga K "BadDeal")) none H)
theorem isUser_is {d : PyData} (h : isUser d = true) : ∃ n l p : Int, d = .tuple [.int n, .int l, .int p] ∧ 0 ≤ n ∧ n ≤ 1000000000000 ∧ 0 ≤ l ∧ l ≤ 5 ∧ 0 ≤ p ∧ p ≤ 3 := by
  unfold isUser at h
  split at h
  · simp only [Bool.and_eq_true] at h
    obtain ⟨n, rfl, a, b⟩ := isNum_int h.1
    obtain ⟨l, rfl, c, d⟩ := isNum_int h.2.1
    obtain ⟨p, rfl, e, f⟩ := isNum_int h.2.2
    exact ⟨n, l, p, rfl, a, b, c, d, e, f⟩
  · cases h
theorem isDeal_is {d : PyData} (h : isDeal d = true) : ∃ s t : Int, d = .tuple [.int s, .int t] ∧ 0 ≤ s ∧ s ≤ 99 ∧ 0 ≤ t ∧ t ≤ 99 ∧ s % 2 ≠ 0 ∧ s % 5 ≠ 0 := by
  unfold isDeal at h
  split at h
  · rename_i s t
    simp at h
    exact ⟨s, t, rfl, by omega, by omega, by omega, by omega, by omega, by omega⟩
  · cases h
/-- the cell of a script: some int -/
def spCell (K : PySem.W.Frag) : Sp := fun vs H Q _ => ∃ (a : Addr) (k : Int) (ns : List Int), vs = [.ref a, .int k] ∧ SqL K H a (ns.map V.int) ∧ ns.length ≤ 100 ∧ 0 ≤ k ∧ k < 1000 ∧ ∀ z H', Same H H' → Q (.int z) H'
theorem shapedAll_ints : ∀ ns : List Int, PyData.canLayAll0 (ns.map PyData.int) = true
  | [] => rfl
  | n :: ns => by
    simp only [List.map_cons, PyData.canLayAll0, PyData.canLay0, shapedAll_ints ns, Bool.and_self]
theorem depthAll_ints : ∀ ns : List Int, PyData.depthAll (ns.map PyData.int) ≤ 1
  | [] => by simp [PyData.depthAll]
  | n :: ns => by
    have h := depthAll_ints ns
    simp only [List.map_cons, PyData.depthAll, PyData.depth]
    omega
theorem shaped_ints (ns : List Int) : SeqAt.shaped (.list (ns.map PyData.int)) = true := by
  have h1 := shapedAll_ints ns
  have h2 := depthAll_ints ns
  have h3 : PyData.depth (.list (ns.map PyData.int)) ≤ 64 := by
    simp only [PyData.depth]
    omega
  simp only [SeqAt.shaped, PyData.canLay0, h1, decide_eq_true h3, Bool.and_self]
theorem dp_ints {K : PySem.W.Frag} {H : Hp} {a : Addr} {ns : List Int} (h : SqL K H a (ns.map V.int)) : Dp K H (.ref a) (.list (ns.map PyData.int)) := .lst h (dpAll_ints ns)
theorem atI_ints {ns : List Int} {j : Int} (h0 : 0 ≤ j) (h1 : j < ns.length) : ∃ z, atI (ns.map V.int) j = some (.int z) := by
  have hj : j.toNat < ns.length := by omega
  refine ⟨ns[j.toNat], at_of (j := j.toNat) (by omega) ?_⟩
  rw [List.getElem?_map, List.getElem?_eq_getElem hj]
  rfl
def spDrawn : Sp := fun vs H Q _ => ∃ (c k : Int), vs = [.int c, .int k] ∧ ∀ z, 0 ≤ z → Q (.int z) H
theorem mulW {i j : Int} (a : 0 ≤ i) (b : i < 2 ^ 200) (c : 0 ≤ j) (d : j < 2 ^ 200) : CMulW i j := by
  refine wide_mul (a := 200) (b := 200) ?_ ?_ (by decide) (by decide) (by decide)
  · have e : ((2 : Int) ^ 200) = ((2 ^ 200 : Nat) : Int) := by norm_cast
    omega
  · have e : ((2 : Int) ^ 200) = ((2 ^ 200 : Nat) : Int) := by norm_cast
    omega
/-- some number below many; all but the dice stays -/
def spRoll : Sp := fun vs H Q _ => ∃ (a : Addr) (m : Int), vs = [.ref a, .int m] ∧ Dice H a ∧ 0 < m ∧ m < 18446744073709551616 ∧ ∀ r H', 0 ≤ r → r < m → But a H H' → Q (.int r) H'
theorem But.put {a : Addr} {H : Hp} {x k : Int} (d : Dice H a) : But a H (upd H a (.lst [.int x, .int k])) := ⟨d, ⟨x, k, upd_same⟩, fun b o e n => by
  rw [upd_ne n]
  exact e⟩
/-- some dice, each a new list -/
def spRounds (K : PySem.W.Frag) : Sp := fun vs H Q _ => ∃ (a : Addr) (m : Int) (ns : List Int), vs = [.ref a, .int m] ∧ SqL K H a (ns.map V.int) ∧ ns.length ≤ 100 ∧ 1 ≤ m ∧ m ≤ 10 ∧
  ∀ (L : Addr) (ds : List Addr) (H' : Hp), Same H H' → H' L = some (.lst (ds.map V.ref)) → (∀ d ∈ ds, H d = none ∧ d ≠ L ∧ Dice H' d) → H L = none → Q (.ref L) H'
/-- the loop over the rounds: each turn from some dice on; it changes nothing that stood but the dice, and goes on -/
theorem rounds_go {K : PySem.W.Frag} {a L : Addr} {ds : List Addr} {tb : TS} {D : Ends} {H : Hp} {n : Nat} {w0 : List (Option V)} (hw : w0.length = n) (hL : H L = some (.lst (ds.map V.ref))) (hds : ∀ d ∈ ds, d ≠ L ∧ Dice H d) (hd : ∀ σ' H', D.nx σ' H')
    (hbody : ∀ (w : List (Option V)) (H' : Hp) (d : Addr) (N : L2.St → Hp → Prop), w.length = n → Dice H' d → (∀ (w2 : List (Option V)) (H2 : Hp), w2.length = n → But d H' H2 → N (some (.ref a) :: w2) H2) →
      tb { D with nx := N, ct := N, bk := D.nx } ((some (.ref a) :: w).set 1 (some (.ref d))) H') :
    ForGoal (Itl K L) (gName 1) tb D (some (.ref a) :: w0) H := by
  refine for_go (walk_list (K := K) (a := L) (xs := ds.map V.ref)) (fun i σ H' => (∃ w : List (Option V), w.length = n ∧ σ = some (.ref a) :: w) ∧ H' L = some (.lst (ds.map V.ref)) ∧ ∀ d ∈ ds, Dice H' d) ⟨⟨w0, hw, rfl⟩, hL, fun d h => (hds d h).2⟩ (fun i σ H' _ h => lstOf h.2.1) ?_ (fun σ H' _ => hd σ H')
  rintro i x σ H' H'' hi ⟨⟨w, hw', rfl⟩, hL', hds'⟩ ⟨rfl, hx⟩
  rw [List.getElem?_map] at hx
  obtain ⟨d, hd1, rfl⟩ := Option.map_eq_some_iff.mp hx
  have hm := List.mem_of_getElem? hd1
  refine hbody w H'' d _ hw' (hds' d hm) fun w2 H2 hw2 b => ⟨⟨w2, hw2, rfl⟩, b.kp L _ hL' ((hds d hm).1).symm, fun e he => ?_⟩
  by_cases hed : e = d
  · subst hed
    exact b.d1
  · obtain ⟨x, k, hx⟩ := hds' e he
    exact ⟨x, k, b.kp e _ hx hed⟩
def spLaw (K : PySem.W.Frag) : Sp := fun vs H Q _ => ∃ (a : Addr) (ns : List Int), vs = [.ref a] ∧ SqL K H a (ns.map V.int) ∧ ns.length ≤ 63 ∧ ∀ H', Q (.bl true) H'
/-- some deal -/
def spDeal (K : PySem.W.Frag) : Sp := fun vs H Q _ => ∃ a : Addr, vs = [.ref a] ∧ Dice H a ∧ ∀ (p : Addr) (s t : Int) (H' : Hp), But a H H' → H p = none → H' p = some (.tup [.int s, .int t]) → isDeal (.tuple [.int s, .int t]) = true → Q (.ref p) H'
theorem atI_four {r a b c d : Int} (h0 : 0 ≤ r) (h1 : r < 4) : ∃ z, atI [V.int a, V.int b, V.int c, V.int d] r = some (.int z) ∧ (z = a ∨ z = b ∨ z = c ∨ z = d) := by
  have h : r = 0 ∨ r = 1 ∨ r = 2 ∨ r = 3 := by omega
  rcases h with rfl | rfl | rfl | rfl
  · exact ⟨a, rfl, .inl rfl⟩
  · exact ⟨b, rfl, .inr (.inl rfl)⟩
  · exact ⟨c, rfl, .inr (.inr (.inl rfl))⟩
  · exact ⟨d, rfl, .inr (.inr (.inr rfl))⟩
theorem isDeal_mk {s t : Int} (h0 : 0 ≤ s) (h1 : s ≤ 99) (h2 : 0 ≤ t) (h3 : t ≤ 99) (h4 : s % 2 ≠ 0) (h5 : s % 5 ≠ 0) : isDeal (.tuple [.int s, .int t]) = true := by
  simp [isDeal, h0, h1, h2, h3, h4, h5]
/-- some user -/
def spUser (K : PySem.W.Frag) : Sp := fun vs H Q _ => ∃ a : Addr, vs = [.ref a] ∧ Dice H a ∧ ∀ (p : Addr) (n l m : Int) (H' : Hp), But a H H' → H p = none → H' p = some (.tup [.int n, .int l, .int m]) → 0 ≤ n → n ≤ 1000000000000 → 0 ≤ l → l ≤ 5 → 0 ≤ m → m ≤ 3 → Q (.ref p) H'
theorem isUser_mk {n l m : Int} (h0 : 0 ≤ n) (h1 : n ≤ 1000000000000) (h2 : 0 ≤ l) (h3 : l ≤ 5) (h4 : 0 ≤ m) (h5 : m ≤ 3) : isUser (.tuple [.int n, .int l, .int m]) = true := by
  simp [isUser, isNum, h0, h1, h2, h3, h4, h5]
def rising : List PyData → Bool
  | .int a :: .int b :: r => decide (a < b) && rising (.int b :: r)
  | _ => true
def isRow (d : PyData) (m : Int) : Bool := match d with
  | .tuple (x :: xs) => (x :: xs).all (fun y => isNum y 0 (m - 1)) && rising (x :: xs)
  | _ => false
def spIsRow (K : PySem.W.Frag) : Sp := fun vs H Q _ => ∃ (v : V) (d : PyData) (m : Int), vs = [v, .int m] ∧ Dp K H v d ∧ okD d = true ∧ ∀ H', Same H H' → Q (.bl (isRow d m)) H'
theorem all_nums : ∀ {ds : List PyData} {lo hi : Int}, ds.all (fun y => isNum y lo hi) = true → ∃ ns : List Int, ds = ns.map PyData.int
  | [], _, _, _ => ⟨[], rfl⟩
  | d :: ds, lo, hi, h => by
    simp only [List.all_cons, Bool.and_eq_true] at h
    obtain ⟨i, rfl, _⟩ := isNum_int h.1
    obtain ⟨ns, rfl⟩ := all_nums h.2
    exact ⟨i :: ns, rfl⟩
/-- each next one greater -/
def upB : List Int → List Bool
  | a :: b :: r => decide (a < b) :: upB (b :: r)
  | _ => []
theorem upB_len : ∀ ns : List Int, (upB ns).length = ns.length - 1
  | [] => rfl
  | [_] => rfl
  | a :: b :: r => by
    simp only [upB, List.length_cons, upB_len (b :: r)]
    omega
theorem upB_get : ∀ {ns : List Int} {i : Nat} {x y : Int}, ns[i]? = some x → ns[i + 1]? = some y → (upB ns)[i]? = some (decide (x < y))
  | [], _, _, _, h, _ => by simp at h
  | [_], 0, _, _, _, h => by simp at h
  | [_], i + 1, _, _, h, _ => by simp at h
  | a :: b :: r, 0, x, y, h, h2 => by
    simp at h h2
    subst h h2
    rfl
  | a :: b :: r, i + 1, x, y, h, h2 => by
    have := upB_get (ns := b :: r) (i := i) (x := x) (y := y) (by simpa using h) (by simpa using h2)
    simpa [upB] using this
theorem rising_up : ∀ ns : List Int, rising (ns.map PyData.int) = (upB ns).all id
  | [] => rfl
  | [_] => rfl
  | a :: b :: r => by
    have h := rising_up (b :: r)
    simp only [List.map_cons] at h
    simp only [List.map_cons, rising, upB, List.all_cons, id, h]
theorem isRow_no {d : PyData} {m : Int} (h : isTupD d = false) : isRow d m = false := by
  cases d <;> first | rfl | cases h
/-- how many parts a condition has -/
def partsOf : Nat → PyData → Int
  | 0, _ => 0
  | n + 1, .tuple (.str z :: a :: r) =>
    if z = "land" then (if r.isEmpty && isRow a 6 then 1 else 0)
    else if z = "plan" then (if r.isEmpty && isRow a 4 then 1 else 0)
    else if ((decide (z = "and") || decide (z = "or")) && (decide (1 ≤ r.length) && decide (r.length ≤ 4))) || (decide (z = "not") && r.isEmpty) then
      (if ((a :: r).map (partsOf n)).contains 0 then 0 else 1 + ((a :: r).map (partsOf n)).sum)
    else 0
  | _ + 1, _ => 0
def spPartsR (K : PySem.W.Frag) (n : Nat) : Sp := fun vs H Q _ => ∃ (v : V) (d : PyData) (k : Nat), vs = [v, .int (k : Nat)] ∧ k < n ∧ Dp K H v d ∧ okD d = true ∧ ∀ H', Same H H' → Q (.int (partsOf k d)) H'
theorem inV_ints (x : Int) (ns : List Int) : inV (.int x) (ns.map V.int) = ns.contains x := by
  induction ns with
  | nil => rfl
  | cons n r ih =>
    simp only [inV, List.map_cons, List.any_cons, eqV, List.contains_cons] at ih ⊢
    rw [ih]
    have h : (n == x) = (x == n) := by
      rw [Bool.eq_iff_iff]
      constructor <;> (intro h; simp at h ⊢; exact h.symm)
    rw [h]
theorem flat_ints (ns : List Int) : (ns.map V.int).all flatV = true := by
  induction ns with
  | nil => rfl
  | cons n r ih => simp only [List.map_cons, List.all_cons, flatV, ih, Bool.and_self]
theorem partsOf_land {n : Nat} {a : PyData} {r : List PyData} : partsOf (n + 1) (.tuple (.str "land" :: a :: r)) = if r.isEmpty && isRow a 6 then 1 else 0 := by
  simp only [partsOf, if_true]
theorem partsOf_plan {n : Nat} {a : PyData} {r : List PyData} : partsOf (n + 1) (.tuple (.str "plan" :: a :: r)) = if r.isEmpty && isRow a 4 then 1 else 0 := by
  simp only [partsOf, show ¬ ("plan" : Str) = "land" by decide +kernel, if_false, if_true]
theorem partsOf_more {n : Nat} {z : Str} {a : PyData} {r : List PyData} (h1 : ¬ z = "land") (h2 : ¬ z = "plan") : partsOf (n + 1) (.tuple (.str z :: a :: r)) =
    if ((decide (z = "and") || decide (z = "or")) && (decide (1 ≤ r.length) && decide (r.length ≤ 4))) || (decide (z = "not") && r.isEmpty) then
      (if ((a :: r).map (partsOf n)).contains 0 then 0 else 1 + ((a :: r).map (partsOf n)).sum) else 0 := by
  simp only [partsOf, h1, h2, if_false]
theorem partsOf_no {n : Nat} {d : PyData} (h : isTupD d = false) : partsOf n d = 0 := by
  cases n with
  | zero => rfl
  | succ n => cases d <;> first | rfl | cases h
theorem partsOf_short {n : Nat} {ds : List PyData} (h : ds.length < 2) : partsOf n (.tuple ds) = 0 := by
  cases n with
  | zero => rfl
  | succ n =>
    match ds, h with
    | [], _ => rfl
    | [x], _ => cases x <;> rfl
theorem partsOf_word {n : Nat} {x a : PyData} {r : List PyData} (h : isStrD x = false) : partsOf n (.tuple (x :: a :: r)) = 0 := by
  cases n with
  | zero => rfl
  | succ n => cases x <;> first | rfl | cases h
def isCond (d : PyData) : Bool := decide (1 ≤ partsOf 5 d) && decide (partsOf 5 d ≤ 40)
def spIsCond (K : PySem.W.Frag) : Sp := fun vs H Q _ => ∃ (v : V) (d : PyData), vs = [v] ∧ Dp K H v d ∧ okD d = true ∧ ∀ H', Same H H' → Q (.bl (isCond d)) H'
def spNeedCond (K : PySem.W.Frag) : Sp := fun vs H Q E => ∃ (v : V) (d : PyData), vs = [v] ∧ Dp K H v d ∧ okD d = true ∧ (isCond d = true → ∀ H', Same H H' → Q .non H') ∧ (isCond d = false → ∀ H', Same H H' → E (.ref (He.ga K "BadCondition")) none H')
def inRowD (l : Int) (d : PyData) : Bool := match d with
  | .tuple ds => ds.any fun y => match y with
    | .int i => decide (i = l)
    | _ => false
  | _ => false
/-- whether a condition holds of a land and a plan -/
def fitsD : Nat → PyData → Int → Int → Bool
  | n + 1, .tuple (.str z :: a :: r), l, p =>
    if z = "land" then inRowD l a
    else if z = "plan" then inRowD p a
    else if z = "not" then !fitsD n a l p
    else if z = "and" then (a :: r).all fun y => fitsD n y l p
    else (a :: r).any fun y => fitsD n y l p
  | _, _, _, _ => false
def spFitsR (K : PySem.W.Frag) (n : Nat) : Sp := fun vs H Q _ => ∃ (v : V) (d : PyData) (l p : Int) (k : Nat), vs = [v, .int l, .int p] ∧ k < n ∧ Dp K H v d ∧ okD d = true ∧ partsOf k d ≠ 0 ∧ ∀ H', Same H H' → Q (.bl (fitsD k d l p)) H'
theorem isRow_inv {d : PyData} {m : Int} (h : isRow d m = true) : ∃ n ns, d = .tuple ((n :: ns).map PyData.int) ∧ ∀ i ∈ n :: ns, 0 ≤ i ∧ i ≤ m - 1 := by
  unfold isRow at h
  split at h
  · rename_i x xs
    rw [Bool.and_eq_true] at h
    obtain ⟨ns, e⟩ := all_nums h.1
    cases ns with
    | nil => cases e
    | cons n ns =>
      refine ⟨n, ns, by rw [e], fun i hi => ?_⟩
      have h1 := List.all_eq_true.mp h.1 (.int i) (by rw [e]; exact List.mem_map.mpr ⟨i, hi, rfl⟩)
      obtain ⟨j, ej, j0, j1⟩ := isNum_int h1
      cases ej
      exact ⟨j0, j1⟩
  · cases h
theorem inRowD_ints (l : Int) (ns : List Int) : inRowD l (.tuple (ns.map PyData.int)) = ns.contains l := by
  unfold inRowD
  induction ns with
  | nil => rfl
  | cons n r ih =>
    simp only [List.map_cons, List.any_cons, List.contains_cons] at ih ⊢
    rw [ih]
    have h : decide (n = l) = (l == n) := by
      by_cases e : n = l
      · subst e
        simp
      · rw [decide_eq_false e]
        exact (beq_eq_false_iff_ne.mpr fun q => e q.symm).symm
    rw [h]
/-- what a condition looks like -/
theorem parts_inv {k : Nat} {d : PyData} (h : partsOf (k + 1) d ≠ 0) : ∃ (z : Str) (a : PyData) (r : List PyData), d = .tuple (.str z :: a :: r) ∧ ((z = "land" ∧ r = [] ∧ isRow a 6 = true) ∨ (z = "plan" ∧ r = [] ∧ isRow a 4 = true) ∨
    (¬ z = "land" ∧ ¬ z = "plan" ∧ ((z = "not" ∧ r = []) ∨ ((z = "and" ∨ z = "or") ∧ 1 ≤ r.length ∧ r.length ≤ 4)) ∧ ∀ y ∈ a :: r, partsOf k y ≠ 0)) := by
  cases ht : isTupD d with
  | false => exact absurd (partsOf_no ht) h
  | true =>
  obtain ⟨ds, rfl⟩ := is_tup ht
  match ds with
  | [] => exact absurd rfl h
  | [_] => exact absurd (partsOf_short (by simp)) h
  | x :: a :: r =>
  cases hs : isStrD x with
  | false => exact absurd (partsOf_word hs) h
  | true =>
  obtain ⟨z, rfl⟩ := is_str hs
  refine ⟨z, a, r, rfl, ?_⟩
  by_cases hl : z = "land"
  · subst hl
    rw [partsOf_land] at h
    cases hc : r.isEmpty && isRow a 6 with
    | false =>
      rw [hc] at h
      exact absurd rfl h
    | true =>
      rw [Bool.and_eq_true] at hc
      exact .inl ⟨rfl, List.isEmpty_iff.mp hc.1, hc.2⟩
  · by_cases hp : z = "plan"
    · subst hp
      rw [partsOf_plan] at h
      cases hc : r.isEmpty && isRow a 4 with
      | false =>
        rw [hc] at h
        exact absurd rfl h
      | true =>
        rw [Bool.and_eq_true] at hc
        exact .inr (.inl ⟨rfl, List.isEmpty_iff.mp hc.1, hc.2⟩)
    · rw [partsOf_more hl hp] at h
      refine .inr (.inr ⟨hl, hp, ?_⟩)
      split at h
      · rename_i hg
        split at h
        · exact absurd rfl h
        · rename_i hc
          refine ⟨?_, fun y hy e => hc ?_⟩
          · simp only [Bool.or_eq_true, Bool.and_eq_true, decide_eq_true_eq, List.isEmpty_iff] at hg
            rcases hg with ⟨h1, h2, h3⟩ | ⟨h1, h2⟩
            · exact .inr ⟨h1, h2, h3⟩
            · exact .inl ⟨h1, h2⟩
          · rw [List.contains_iff_mem]
            exact List.mem_map.mpr ⟨y, hy, e⟩
      · exact absurd rfl h
def landD : PyData → Int
  | .tuple [_, .int l, _] => l
  | _ => 0
def planD : PyData → Int
  | .tuple [_, _, .int p] => p
  | _ => 0
def spHolds (K : PySem.W.Frag) : Sp := fun vs H Q E => ∃ (v u : V) (d e : PyData), vs = [v, u] ∧ Dp K H v d ∧ Dp K H u e ∧ okD d = true ∧ (isCond d = true → isUser e = true → ∀ H', Same H H' → Q (.bl (fitsD 5 d (landD e) (planD e))) H') ∧
  (isCond d = false → ∀ H', Same H H' → E (.ref (He.ga K "BadCondition")) none H') ∧ (isCond d = true → isUser e = false → ∀ H', Same H H' → E (.ref (He.ga K "BadUser")) none H')
theorem isCond_parts {d : PyData} (h : isCond d = true) : partsOf 5 d ≠ 0 := by
  simp only [isCond, Bool.and_eq_true, decide_eq_true_eq] at h
  omega
/-- all tuples of land and plan -/
def kd (k : Int × Int) : PyData := .tuple [.int k.1, .int k.2]
def kindsTo (n : Nat) : List (Int × Int) := (List.range n).flatMap fun (l : Nat) => (List.range 4).map fun (p : Nat) => ((l : Int), (p : Int))
abbrev kindL : List (Int × Int) := kindsTo 6
def spKinds (K : PySem.W.Frag) : Sp := fun vs H Q _ => vs = [] ∧ ∀ (L : Addr) (xs : List V) (H' : Hp), Same H H' → H L = none → H' L = some (.lst xs) → DpAll K H' xs (kindL.map kd) → Q (.ref L) H'
theorem kindsTo_succ (n : Nat) : kindsTo (n + 1) = kindsTo n ++ (List.range 4).map fun (p : Nat) => ((n : Int), (p : Int)) := by
  unfold kindsTo
  rw [List.range_succ (n := n), List.flatMap_append]
  simp
theorem kindsTo_len (n : Nat) : (kindsTo n).length = 4 * n := by
  induction n with
  | zero => rfl
  | succ n ih =>
    rw [kindsTo_succ, List.length_append, ih]
    simp
    omega
theorem kd_imm (k : Int × Int) : imm (kd k) = true := by
  simp [kd, imm, immAll]
theorem immAll_kd (l : List (Int × Int)) : immAll (l.map kd) = true := immAll_mem fun d hd => by
  obtain ⟨k, _, rfl⟩ := List.mem_map.mp hd
  exact kd_imm k
theorem dp_kd {K : PySem.W.Frag} {H : Hp} {p : Addr} {l m : Int} (h : H p = some (.tup [.int l, .int m])) : Dp K H (.ref p) (kd (l, m)) := .tup (tupOf h) (.cons (.int l) (.cons (.int m) .nil))
def spKindsOf (K : PySem.W.Frag) : Sp := fun vs H Q E => ∃ (v : V) (d : PyData), vs = [v] ∧ Dp K H v d ∧ okD d = true ∧ (isCond d = true → ∀ (L : Addr) (xs : List V) (H' : Hp), Same H H' → H L = none → H' L = some (.lst xs) → DpAll K H' xs ((kindL.filter fun k => fitsD 5 d k.1 k.2).map kd) → Q (.ref L) H') ∧
  (isCond d = false → ∀ H', Same H H' → E (.ref (He.ga K "BadCondition")) none H')
theorem getElem?_kd {K : PySem.W.Frag} {H : Hp} {xs : List V} {l : List (Int × Int)} {i : Nat} {x : V} (h : DpAll K H xs (l.map kd)) (hx : xs[i]? = some x) : ∃ k a, l[i]? = some k ∧ x = .ref a ∧ SqT K H a [.int k.1, .int k.2] := by
  obtain ⟨d, hd, dd⟩ := dpAll_getV h hx
  rw [List.getElem?_map] at hd
  obtain ⟨k, hk, rfl⟩ := Option.map_eq_some_iff.mp hd
  obtain ⟨a, ys, rfl, hs, hys⟩ := dp_tuple dd
  cases hys with
  | cons h1 h2 =>
    cases h1
    cases h2 with
    | cons h3 h4 =>
      cases h3
      cases h4
      exact ⟨k, a, hk, rfl, hs⟩
def spLawRow (K : PySem.W.Frag) : Sp := fun vs H Q _ => ∃ (a : Addr) (m : Int), vs = [.ref a, .int m] ∧ Dice H a ∧ 1 ≤ m ∧ m ≤ 100 ∧
  ∀ (p : Addr) (ns : List Int) (H' : Hp), But a H H' → H p = none → H' p = some (.tup (ns.map V.int)) → ns.length ≤ 100 → isRow (.tuple (ns.map PyData.int)) m = true → Q (.ref p) H'
theorem upB_pair : ∀ {ns : List Int}, ns.Pairwise (· < ·) → (upB ns).all id = true
  | [], _ => rfl
  | [_], _ => rfl
  | a :: b :: r, h => by
    have h1 := List.pairwise_cons.mp h
    have h2 := h1.1 b (by simp)
    simp only [upB, List.all_cons, id, upB_pair h1.2, decide_eq_true h2, Bool.and_self]
theorem isRow_mk {ns : List Int} {m : Int} (h0 : ns ≠ []) (h1 : ns.Pairwise (· < ·)) (h2 : ∀ i ∈ ns, 0 ≤ i ∧ i ≤ m - 1) : isRow (.tuple (ns.map PyData.int)) m = true := by
  cases ns with
  | nil => exact absurd rfl h0
  | cons n r =>
    have e1 : (((n :: r).map PyData.int).all fun y => isNum y 0 (m - 1)) = true := by
      rw [List.all_map, List.all_eq_true]
      intro i hi
      obtain ⟨a, b⟩ := h2 i hi
      simp [isNum, a, b]
    have e2 : rising ((n :: r).map PyData.int) = true := by
      rw [rising_up, upB_pair h1]
    show ((((n :: r).map PyData.int).all fun y => isNum y 0 (m - 1)) && rising ((n :: r).map PyData.int)) = true
    rw [e1, e2]
    rfl
theorem dpAll_some_ints {K : PySem.W.Frag} {H : Hp} {vs : List V} {ns : List Int} (h : DpAll K H vs (ns.map PyData.int)) : vs = ns.map V.int := dpAll_intsV h
theorem eqv_nil (ds : List PyData) : PyData.eqv (.list ds) (.list []) = ds.isEmpty := by
  cases ds <;> rfl
def bnd : Nat → Int
  | 0 => 0
  | 1 => 1
  | 2 => 4
  | 3 => 13
  | _ => 27
/-- a drawn condition -/
structure CondG (k : Nat) (d : PyData) : Prop where
  im : imm d = true
  cl : d.canLay0 = true
  dp : d.depth ≤ 10 * k
  nr : narrow d = true
  p0 : 1 ≤ partsOf k d
  p1 : partsOf k d ≤ bnd k
def spLCondR (K : PySem.W.Frag) (n : Nat) : Sp := fun vs H Q _ => ∃ (a : Addr) (k : Nat), vs = [.ref a, .int (k : Nat)] ∧ 1 ≤ k ∧ k < n ∧ n ≤ 5 ∧ Dice H a ∧ ∀ v d H', But a H H' → Dp K H' v d → CondG k d → Q v H'
theorem CondG.ok {k : Nat} {d : PyData} (g : CondG k d) (hk : k ≤ 5) : okD d = true := by
  have h : decide (d.depth ≤ 64) = true := decide_eq_true (by have := g.dp; omega)
  simp only [okD, SeqAt.shaped, g.cl, h, g.nr, Bool.and_self]
theorem CondG.ne {k : Nat} {d : PyData} (g : CondG k d) : partsOf k d ≠ 0 := by
  have := g.p0
  omega
theorem imm_ints (ns : List Int) : immAll (ns.map PyData.int) = true := immAll_mem fun d hd => by
  obtain ⟨i, _, rfl⟩ := List.mem_map.mp hd
  rfl
theorem narrow_ints : ∀ ns : List Int, narrowAll (ns.map PyData.int) = true
  | [] => rfl
  | n :: ns => by simp only [List.map_cons, narrowAll, narrow, narrow_ints ns, Bool.and_self]
theorem strOk_land : PyData.canLay0 (.str "land") = true := by kernel_rfl
theorem strOk_plan : PyData.canLay0 (.str "plan") = true := by kernel_rfl
theorem strOk_not : PyData.canLay0 (.str "not") = true := by kernel_rfl
theorem strOk_and : PyData.canLay0 (.str "and") = true := by kernel_rfl
theorem strOk_or : PyData.canLay0 (.str "or") = true := by kernel_rfl
theorem condG_leaf {k : Nat} {z : Str} {m : Int} {ns : List Int} (k0 : 1 ≤ k) (hz : (z = "land" ∧ m = 6) ∨ (z = "plan" ∧ m = 4)) (hl : ns.length ≤ 100) (h : isRow (.tuple (ns.map PyData.int)) m = true) : CondG k (.tuple [.str z, .tuple (ns.map PyData.int)]) := by
  obtain ⟨j, rfl⟩ : ∃ j, k = j + 1 := ⟨k - 1, by omega⟩
  have h1 : partsOf (j + 1) (.tuple [.str z, .tuple (ns.map PyData.int)]) = 1 := by
    rcases hz with ⟨rfl, rfl⟩ | ⟨rfl, rfl⟩
    · rw [partsOf_land, h]
      rfl
    · rw [partsOf_plan, h]
      rfl
  have hb : (1 : Int) ≤ bnd (j + 1) := by
    match j with
    | 0 => decide
    | 1 => decide
    | 2 => decide
    | j + 3 => exact (by decide : (1 : Int) ≤ 27)
  have hz2 : PyData.canLay0 (.str z) = true := by
    rcases hz with ⟨rfl, rfl⟩ | ⟨rfl, rfl⟩
    · exact strOk_land
    · exact strOk_plan
  have hd := depthAll_ints ns
  refine ⟨?_, ?_, ?_, ?_, by omega, by omega⟩
  · simp only [imm, immAll, imm_ints, Bool.and_self]
  · simp only [PyData.canLay0, PyData.canLayAll0, shapedAll_ints, Bool.and_true] at hz2 ⊢
    exact hz2
  · simp only [PyData.depth, PyData.depthAll]
    omega
  · simp only [narrow, narrowAll, List.length_map, List.length_cons, List.length_nil, narrow_ints, Bool.and_true, Bool.true_and]
    simp
    omega
theorem sum_bnd {f : PyData → Int} {b : Int} : ∀ {ds : List PyData}, (∀ d ∈ ds, 1 ≤ f d ∧ f d ≤ b) → (ds.length : Int) ≤ (ds.map f).sum ∧ (ds.map f).sum ≤ ds.length * b
  | [], _ => by simp
  | d :: ds, h => by
    have h1 := h d (by simp)
    have h2 := sum_bnd (ds := ds) fun e he => h e (by simp [he])
    simp only [List.map_cons, List.sum_cons, List.length_cons]
    have e : ((ds.length + 1 : Nat) : Int) * b = (ds.length : Int) * b + b := by
      rw [Int.natCast_add, Int.add_mul]
      simp
    rw [e]
    omega
theorem condG_node {k : Nat} {z : Str} {a : PyData} {r : List PyData} (hk : k ≤ 3) (hz : PyData.canLay0 (.str z) = true) (h1 : ¬ z = "land") (h2 : ¬ z = "plan")
    (hg : ((z = "and" ∨ z = "or") ∧ 1 ≤ r.length ∧ r.length ≤ 2 ∧ (k = 3 → r.length ≤ 1)) ∨ (z = "not" ∧ r = [])) (h : ∀ y ∈ a :: r, CondG k y) : CondG (k + 1) (.tuple (.str z :: a :: r)) := by
  have hl : r.length ≤ 2 ∧ (k = 3 → r.length ≤ 1) := by
    rcases hg with ⟨_, _, a, b⟩ | ⟨_, rfl⟩
    · exact ⟨a, b⟩
    · exact ⟨by simp, fun _ => by simp⟩
  have hgg : (((decide (z = "and") || decide (z = "or")) && (decide (1 ≤ r.length) && decide (r.length ≤ 4))) || (decide (z = "not") && r.isEmpty)) = true := by
    rcases hg with ⟨a | a, b, c, _⟩ | ⟨a, b⟩
    · simp [a, b, show r.length ≤ 4 by omega]
    · simp [a, b, show r.length ≤ 4 by omega]
    · simp [a, b]
  have hp : partsOf (k + 1) (.tuple (.str z :: a :: r)) = 1 + ((a :: r).map (partsOf k)).sum := by
    rw [partsOf_more h1 h2, hgg]
    have hc : ((a :: r).map (partsOf k)).contains 0 = false := by
      cases e : ((a :: r).map (partsOf k)).contains 0 with
      | false => rfl
      | true =>
        rw [List.contains_iff_mem] at e
        obtain ⟨y, hy, e⟩ := List.mem_map.mp e
        exact absurd e (h y hy).ne
    rw [hc]
    rfl
  have hs := sum_bnd (f := partsOf k) (b := bnd k) (ds := a :: r) fun d hd => ⟨(h d hd).p0, (h d hd).p1⟩
  have hdep := depthAll_le (m := 10 * k) (ds := a :: r) fun d hd => (h d hd).dp
  have hcl := canLayAll_mem (ds := a :: r) fun d hd => (h d hd).cl
  have hnr := narrowAll_of (ds := a :: r) fun d hd => (h d hd).nr
  have him := immAll_mem (l := a :: r) fun d hd => (h d hd).im
  refine ⟨?_, ?_, ?_, ?_, ?_, ?_⟩
  · simp only [imm, immAll, Bool.true_and] at him ⊢
    exact him
  · simp only [PyData.canLay0] at hz
    simp only [PyData.canLay0, PyData.canLayAll0, hz, Bool.true_and] at hcl ⊢
    exact hcl
  · simp only [PyData.depth, PyData.depthAll] at hdep ⊢
    omega
  · simp only [narrow, narrowAll, Bool.true_and, List.length_cons] at hnr ⊢
    rw [hnr, Bool.and_true, decide_eq_true_eq]
    omega
  · rw [hp]
    have := hs.1
    simp only [List.length_cons] at this
    omega
  · rw [hp]
    have h3 := hs.2
    simp only [List.length_cons] at h3
    have hk4 : k = 0 ∨ k = 1 ∨ k = 2 ∨ k = 3 := by omega
    rcases hk4 with rfl | rfl | rfl | rfl
    · have := (h a (by simp)).p1
      have := (h a (by simp)).p0
      simp only [bnd] at *
      omega
    · simp only [bnd] at *
      omega
    · simp only [bnd] at *
      omega
    · have := hl.2 rfl
      simp only [bnd] at *
      omega
theorem atI_twoS {r : Int} {a b : Str} (h0 : 0 ≤ r) (h1 : r < 2) : ∃ z, atI [V.str a, V.str b] r = some (.str z) ∧ (z = a ∨ z = b) := by
  have h : r = 0 ∨ r = 1 := by omega
  rcases h with rfl | rfl
  · exact ⟨a, rfl, .inl rfl⟩
  · exact ⟨b, rfl, .inr rfl⟩
theorem fitsD_land {n : Nat} {a : PyData} {r : List PyData} {l p : Int} : fitsD (n + 1) (.tuple (.str "land" :: a :: r)) l p = inRowD l a := by
  simp only [fitsD, if_true]
theorem fitsD_plan {n : Nat} {a : PyData} {r : List PyData} {l p : Int} : fitsD (n + 1) (.tuple (.str "plan" :: a :: r)) l p = inRowD p a := by
  simp only [fitsD, show ¬ ("plan" : Str) = "land" by decide +kernel, if_false, if_true]
theorem fitsD_not {n : Nat} {a : PyData} {r : List PyData} {l p : Int} : fitsD (n + 1) (.tuple (.str "not" :: a :: r)) l p = !fitsD n a l p := by
  simp only [fitsD, show ¬ ("not" : Str) = "land" by decide +kernel, show ¬ ("not" : Str) = "plan" by decide +kernel, if_false, if_true]
theorem fitsD_and {n : Nat} {a : PyData} {r : List PyData} {l p : Int} : fitsD (n + 1) (.tuple (.str "and" :: a :: r)) l p = (a :: r).all fun y => fitsD n y l p := by
  simp only [fitsD, show ¬ ("and" : Str) = "land" by decide +kernel, show ¬ ("and" : Str) = "plan" by decide +kernel, show ¬ ("and" : Str) = "not" by decide +kernel, if_false, if_true]
theorem fitsD_or {n : Nat} {a : PyData} {r : List PyData} {l p : Int} : fitsD (n + 1) (.tuple (.str "or" :: a :: r)) l p = (a :: r).any fun y => fitsD n y l p := by
  simp only [fitsD, show ¬ ("or" : Str) = "land" by decide +kernel, show ¬ ("or" : Str) = "plan" by decide +kernel, show ¬ ("or" : Str) = "not" by decide +kernel, show ¬ ("or" : Str) = "and" by decide +kernel, if_false]
theorem w_neB {H : Hp} {Q : VK} {a b : Bool} (h : Q (.bl (a != b)) H) : rNe (.bl a) (.bl b) H Q := ⟨rfl, by
  have e : (!decide (V.bl a = V.bl b)) = (a != b) := by
    cases a <;> cases b <;> rfl
  rw [e]
  exact h⟩
theorem w_eqB {H : Hp} {Q : VK} {a b : Bool} (h : Q (.bl (a == b)) H) : rEq (.bl a) (.bl b) H Q := ⟨rfl, by
  have e : decide (V.bl a = V.bl b) = (a == b) := by
    cases a <;> cases b <;> rfl
  rw [e]
  exact h⟩
theorem parts_up : ∀ (k : Nat) (d : PyData), partsOf k d ≠ 0 → partsOf (k + 1) d = partsOf k d ∧ ∀ l p, fitsD (k + 1) d l p = fitsD k d l p
  | 0, d, h => absurd rfl h
  | k + 1, d, h => by
    obtain ⟨z, a, r, rfl, hz⟩ := parts_inv h
    rcases hz with ⟨rfl, _⟩ | ⟨rfl, _⟩ | ⟨n1, n2, hg, hys⟩
    · exact ⟨by rw [partsOf_land, partsOf_land], fun l p => by rw [fitsD_land, fitsD_land]⟩
    · exact ⟨by rw [partsOf_plan, partsOf_plan], fun l p => by rw [fitsD_plan, fitsD_plan]⟩
    · have ih := fun y hy => parts_up k y (hys y hy)
      have em : (a :: r).map (partsOf (k + 1)) = (a :: r).map (partsOf k) := List.map_congr_left fun y hy => (ih y hy).1
      refine ⟨by rw [partsOf_more n1 n2, partsOf_more n1 n2, em], fun l p => ?_⟩
      rcases hg with ⟨rfl, rfl⟩ | ⟨rfl | rfl, _⟩
      · rw [fitsD_not, fitsD_not, (ih a (by simp)).2]
      · rw [fitsD_and, fitsD_and, Bool.eq_iff_iff, List.all_eq_true, List.all_eq_true]
        exact ⟨fun z y hy => by rw [← (ih y hy).2]; exact z y hy, fun z y hy => by rw [(ih y hy).2]; exact z y hy⟩
      · rw [fitsD_or, fitsD_or, Bool.eq_iff_iff, List.any_eq_true, List.any_eq_true]
        exact ⟨fun ⟨y, hy, z⟩ => ⟨y, hy, by rw [← (ih y hy).2]; exact z⟩, fun ⟨y, hy, z⟩ => ⟨y, hy, by rw [(ih y hy).2]; exact z⟩⟩
theorem parts_five {k : Nat} {d : PyData} (h : partsOf k d ≠ 0) (hk : k ≤ 5) : partsOf 5 d = partsOf k d ∧ ∀ l p, fitsD 5 d l p = fitsD k d l p := by
  have key : ∀ m j, partsOf j d ≠ 0 → partsOf (j + m) d = partsOf j d ∧ ∀ l p, fitsD (j + m) d l p = fitsD j d l p := by
    intro m
    induction m with
    | zero => exact fun j _ => ⟨rfl, fun _ _ => rfl⟩
    | succ m ih =>
      intro j hj
      obtain ⟨a1, a2⟩ := ih j hj
      have u := parts_up (j + m) d (by rw [a1]; exact hj)
      exact ⟨u.1.trans a1, fun l p => (u.2 l p).trans (a2 l p)⟩
  have := key (5 - k) k h
  rw [show k + (5 - k) = 5 by omega] at this
  exact this
theorem CondG.cond {k : Nat} {d : PyData} (g : CondG k d) (hk : k ≤ 5) : isCond d = true := by
  have e := (parts_five g.ne hk).1
  have h0 := g.p0
  have h1 := g.p1
  have hb : bnd k ≤ 27 := by
    match k with
    | 0 => decide
    | 1 => decide
    | 2 => decide
    | 3 => decide
    | k + 4 => exact Int.le_refl _
  simp only [isCond, e, Bool.and_eq_true, decide_eq_true_eq]
  omega
theorem eqv_kd (a b : Int × Int) : PyData.eqv (kd a) (kd b) = decide (a = b) := by
  obtain ⟨a1, a2⟩ := a
  obtain ⟨b1, b2⟩ := b
  simp only [kd, PyData.eqv, PyData.eqvAll, Bool.and_true, Prod.mk.injEq]
  rw [Bool.eq_iff_iff]
  simp
theorem eqvAll_kd : ∀ l : List (Int × Int), PyData.eqvAll (l.map kd) (l.map kd) = true
  | [] => rfl
  | k :: l => by simp only [List.map_cons, PyData.eqvAll, eqv_kd, eqvAll_kd l, decide_true, Bool.and_self]
theorem kd_lay (k : Int × Int) : (kd k).canLay0 = true := by simp [kd, PyData.canLay0, PyData.canLayAll0]
theorem kd_dep (k : Int × Int) : (kd k).depth ≤ 3 := by
  simp only [kd, PyData.depth, PyData.depthAll]
  omega
theorem shaped_kd (k : Int × Int) : SeqAt.shaped (kd k) = true := by
  have h : decide ((kd k).depth ≤ 64) = true := decide_eq_true (by have := kd_dep k; omega)
  simp only [SeqAt.shaped, kd_lay, h, Bool.and_self]
theorem shaped_kds (l : List (Int × Int)) : SeqAt.shaped (.list (l.map kd)) = true := by
  have h1 : PyData.canLayAll0 (l.map kd) = true := canLayAll_mem fun d hd => by
    obtain ⟨k, _, rfl⟩ := List.mem_map.mp hd
    exact kd_lay k
  have h2 := depthAll_le (m := 3) (ds := l.map kd) fun d hd => by
    obtain ⟨k, _, rfl⟩ := List.mem_map.mp hd
    exact kd_dep k
  have h3 : decide (PyData.depth (.list (l.map kd)) ≤ 64) = true := decide_eq_true (by simp only [PyData.depth]; omega)
  simp only [SeqAt.shaped, PyData.canLay0, h1, h3, Bool.and_self]
theorem mem_kindL {l p : Int} (h0 : 0 ≤ l) (h1 : l ≤ 5) (h2 : 0 ≤ p) (h3 : p ≤ 3) : (l, p) ∈ kindL := by
  show (l, p) ∈ kindsTo 6
  unfold kindsTo
  rw [List.mem_flatMap]
  exact ⟨l.toNat, List.mem_range.mpr (by omega), List.mem_map.mpr ⟨p.toNat, List.mem_range.mpr (by omega), by
    rw [Int.toNat_of_nonneg h0, Int.toNat_of_nonneg h2]⟩⟩
theorem any_kd {f : Int × Int → Bool} {k : Int × Int} {l : List (Int × Int)} (hk : k ∈ l) : (((l.filter f).map kd).any fun z => PyData.eqv z (kd k)) = f k := by
  rw [List.any_map, Bool.eq_iff_iff, List.any_eq_true]
  constructor
  · rintro ⟨x, hx, e⟩
    have e2 : x = k := by
      have : PyData.eqv (kd x) (kd k) = true := e
      rw [eqv_kd] at this
      exact of_decide_eq_true this
    subst e2
    exact (List.mem_filter.mp hx).2
  · intro h
    refine ⟨k, List.mem_filter.mpr ⟨hk, h⟩, ?_⟩
    show PyData.eqv (kd k) (kd k) = true
    rw [eqv_kd]
    exact decide_eq_true rfl
theorem kinds24 : (List.range 24).map (fun (i : Nat) => (((i : Int) / 4, (i : Int) % 4) : Int × Int)) = kindL := by decide +kernel
def isRule (d : PyData) : Bool := match d with
  | .tuple [c, m] => isCond c && isNum m 0 100
  | _ => false
def spIsRule (K : PySem.W.Frag) : Sp := fun vs H Q _ => ∃ (v : V) (d : PyData), vs = [v] ∧ Dp K H v d ∧ okD d = true ∧ ∀ H', Same H H' → Q (.bl (isRule d)) H'
theorem isRule_no {d : PyData} (h : isTupD d = false) : isRule d = false := by
  cases d <;> first | rfl | cases h
theorem isRule_len {ds : List PyData} (h : ds.length ≠ 2) : isRule (.tuple ds) = false := by
  match ds, h with
  | [], _ => rfl
  | [_], _ => rfl
  | [_, _], h => exact absurd rfl h
  | _ :: _ :: _ :: _, _ => rfl
def areRules (d : PyData) : Bool := match d with
  | .tuple ds => decide (ds.length ≤ 6) && ds.all isRule
  | _ => false
def spAreRules (K : PySem.W.Frag) : Sp := fun vs H Q _ => ∃ (v : V) (d : PyData), vs = [v] ∧ Dp K H v d ∧ okD d = true ∧ ∀ H', Same H H' → Q (.bl (areRules d)) H'
theorem areRules_no {d : PyData} (h : isTupD d = false) : areRules d = false := by
  cases d <;> first | rfl | cases h
def spNeedRules (K : PySem.W.Frag) : Sp := fun vs H Q E => ∃ (v : V) (d : PyData), vs = [v] ∧ Dp K H v d ∧ okD d = true ∧ (areRules d = true → ∀ H', Same H H' → Q .non H') ∧ (areRules d = false → ∀ H', Same H H' → E (.ref (He.ga K "BadRules")) none H')
/-- the share of the first rule that holds -/
def shareL : List PyData → Int → Int → Int
  | .tuple [c, .int m] :: r, l, p => if fitsD 5 c l p = true then m else shareL r l p
  | _ :: r, l, p => shareL r l p
  | [], _, _ => 0
def spShareOf (K : PySem.W.Frag) : Sp := fun vs H Q _ => ∃ (v : V) (ds : List PyData) (l p : Int), vs = [v, .int l, .int p] ∧ Dp K H v (.tuple ds) ∧ okD (.tuple ds) = true ∧ areRules (.tuple ds) = true ∧ ∀ H', Same H H' → Q (.int (shareL ds l p)) H'
theorem isRule_inv {d : PyData} (h : isRule d = true) : ∃ (c : PyData) (m : Int), d = .tuple [c, .int m] ∧ isCond c = true ∧ 0 ≤ m ∧ m ≤ 100 := by
  unfold isRule at h
  split at h
  · rename_i c m
    rw [Bool.and_eq_true] at h
    obtain ⟨i, rfl, i0, i1⟩ := isNum_int h.2
    exact ⟨c, i, rfl, h.1, i0, i1⟩
  · cases h
theorem areRules_mem {ds : List PyData} (h : areRules (.tuple ds) = true) {d : PyData} (hd : d ∈ ds) : isRule d = true := by
  simp only [areRules, Bool.and_eq_true] at h
  exact List.all_eq_true.mp h.2 d hd
theorem areRules_len {ds : List PyData} (h : areRules (.tuple ds) = true) : ds.length ≤ 6 := by
  simp only [areRules, Bool.and_eq_true, decide_eq_true_eq] at h
  exact h.1
theorem areRules_inv {d : PyData} (h : areRules d = true) : ∃ ds, d = .tuple ds := by
  cases d <;> first | exact ⟨_, rfl⟩ | cases h
theorem shareL_drop {l p : Int} : ∀ {ds : List PyData} {i : Nat} {c : PyData} {m : Int}, ds[i]? = some (.tuple [c, .int m]) → shareL (ds.drop i) l p = if fitsD 5 c l p = true then m else shareL (ds.drop (i + 1)) l p
  | [], i, c, m, h => by simp at h
  | d :: ds, 0, c, m, h => by
    simp at h
    subst h
    rfl
  | d :: ds, i + 1, c, m, h => by
    have := shareL_drop (l := l) (p := p) (ds := ds) (i := i) (c := c) (m := m) (by simpa using h)
    simpa using this
theorem dp_pair {K : PySem.W.Frag} {H : Hp} {v : V} {c : PyData} {m : Int} (h : Dp K H v (.tuple [c, .int m])) : ∃ a u, v = .ref a ∧ SqT K H a [u, .int m] ∧ Dp K H u c := by
  obtain ⟨a, xs, rfl, hs, hx⟩ := dp_tuple h
  cases hx with
  | cons h1 h2 =>
    cases h2 with
    | cons h3 h4 =>
      cases h3
      cases h4
      exact ⟨a, _, rfl, hs, h1⟩
def shareD (d : PyData) (l p : Int) : Int := match d with
  | .tuple ds => shareL ds l p
  | _ => 0
def spShare (K : PySem.W.Frag) : Sp := fun vs H Q E => ∃ (v u : V) (d e : PyData), vs = [v, u] ∧ Dp K H v d ∧ Dp K H u e ∧ okD d = true ∧ (areRules d = true → isUser e = true → ∀ H', Same H H' → Q (.int (shareD d (landD e) (planD e))) H') ∧
  (areRules d = false → ∀ H', Same H H' → E (.ref (He.ga K "BadRules")) none H') ∧ (areRules d = true → isUser e = false → ∀ H', Same H H' → E (.ref (He.ga K "BadUser")) none H')
def spLets (K : PySem.W.Frag) : Sp := fun vs H Q _ => ∃ (v w' u : V) (ds : List PyData) (s t n l p : Int), vs = [v, w', u] ∧ Dp K H v (.tuple ds) ∧ okD (.tuple ds) = true ∧ areRules (.tuple ds) = true ∧ Dp K H w' (.tuple [.int s, .int t]) ∧ 0 ≤ s ∧ s ≤ 99 ∧ Dp K H u (.tuple [.int n, .int l, .int p]) ∧
  ∀ H', Same H H' → Q (.bl (decide ((n * s + t) % 100 < shareL ds l p))) H'
def letsD (d dl e : PyData) : Bool := decide (placeD e dl < shareD d (landD e) (planD e))
def spIsLet (K : PySem.W.Frag) : Sp := fun vs H Q E => ∃ (v w' u : V) (d dl e : PyData), vs = [v, w', u] ∧ Dp K H v d ∧ Dp K H w' dl ∧ Dp K H u e ∧ okD d = true ∧ (areRules d = true → isDeal dl = true → isUser e = true → ∀ H', Same H H' → Q (.bl (letsD d dl e)) H') ∧
  (areRules d = false → ∀ H', Same H H' → E (.ref (He.ga K "BadRules")) none H') ∧ (areRules d = true → isDeal dl = false → ∀ H', Same H H' → E (.ref (He.ga K "BadDeal")) none H') ∧ (areRules d = true → isDeal dl = true → isUser e = false → ∀ H', Same H H' → E (.ref (He.ga K "BadUser")) none H')
/-- a drawn rule -/
def RuleG (d : PyData) : Prop := ∃ (c : PyData) (m : Int) (k : Nat), d = .tuple [c, .int m] ∧ k ≤ 4 ∧ CondG k c ∧ 0 ≤ m ∧ m ≤ 100
structure RulesG (ds : List PyData) : Prop where
  len : ds.length ≤ 4
  all : ∀ d ∈ ds, RuleG d
def spLRules (K : PySem.W.Frag) : Sp := fun vs H Q _ => ∃ (a : Addr) (k : Nat), vs = [.ref a, .int (k : Nat)] ∧ 1 ≤ k ∧ k ≤ 4 ∧ Dice H a ∧ ∀ v ds H', But a H H' → Dp K H' v (.tuple ds) → RulesG ds → Q v H'
theorem RuleG.imm {d : PyData} (g : RuleG d) : imm d = true := by
  obtain ⟨c, m, k, rfl, hk, hc, _⟩ := g
  simp only [RG.imm, immAll, hc.im, Bool.and_self]
theorem RuleG.rule {d : PyData} (g : RuleG d) : isRule d = true := by
  obtain ⟨c, m, k, rfl, hk, hc, m0, m1⟩ := g
  simp only [isRule, hc.cond (by omega), isNum, decide_eq_true m0, decide_eq_true m1, Bool.and_self]
theorem RuleG.lay {d : PyData} (g : RuleG d) : d.canLay0 = true := by
  obtain ⟨c, m, k, rfl, hk, hc, _⟩ := g
  simp only [PyData.canLay0, PyData.canLayAll0, hc.cl, Bool.and_self]
theorem RuleG.dep {d : PyData} (g : RuleG d) : d.depth ≤ 45 := by
  obtain ⟨c, m, k, rfl, hk, hc, _⟩ := g
  have := hc.dp
  simp only [PyData.depth, PyData.depthAll]
  omega
theorem RuleG.nar {d : PyData} (g : RuleG d) : narrow d = true := by
  obtain ⟨c, m, k, rfl, hk, hc, _⟩ := g
  simp only [narrow, narrowAll, hc.nr, List.length_cons, List.length_nil, Bool.and_true]
  rfl
theorem RulesG.imm {ds : List PyData} (g : RulesG ds) : immAll ds = true := immAll_mem fun d hd => (g.all d hd).imm
theorem RulesG.ok {ds : List PyData} (g : RulesG ds) : okD (.tuple ds) = true := by
  have h1 := canLayAll_mem (ds := ds) fun d hd => (g.all d hd).lay
  have h2 := depthAll_le (m := 45) (ds := ds) fun d hd => (g.all d hd).dep
  have h3 := narrowAll_of (ds := ds) fun d hd => (g.all d hd).nar
  have h4 : decide (PyData.depth (.tuple ds) ≤ 64) = true := decide_eq_true (by simp only [PyData.depth]; omega)
  have h5 : decide (ds.length ≤ 1000) = true := decide_eq_true (by have := g.len; omega)
  simp only [okD, SeqAt.shaped, PyData.canLay0, h1, h4, narrow, h3, h5, Bool.and_self]
theorem RulesG.rules {ds : List PyData} (g : RulesG ds) : areRules (.tuple ds) = true := by
  have h5 : decide (ds.length ≤ 6) = true := decide_eq_true (by have := g.len; omega)
  have h6 : ds.all isRule = true := List.all_eq_true.mpr fun d hd => (g.all d hd).rule
  simp only [areRules, h5, h6, Bool.and_self]
theorem shareL_bounds {l p : Int} : ∀ {ds : List PyData}, (∀ d ∈ ds, RuleG d) → 0 ≤ shareL ds l p ∧ shareL ds l p ≤ 100
  | [], _ => by simp [shareL]
  | d :: ds, h => by
    obtain ⟨c, m, k, rfl, _, _, m0, m1⟩ := h d (by simp)
    have ih := shareL_bounds (l := l) (p := p) (ds := ds) fun e he => h e (by simp [he])
    simp only [shareL]
    split
    · exact ⟨m0, m1⟩
    · exact ih
theorem atI_sixI {r a b c d e f : Int} (h0 : 0 ≤ r) (h1 : r < 6) : ∃ z, atI [V.int a, V.int b, V.int c, V.int d, V.int e, V.int f] r = some (.int z) ∧ (z = a ∨ z = b ∨ z = c ∨ z = d ∨ z = e ∨ z = f) := by
  have h : r = 0 ∨ r = 1 ∨ r = 2 ∨ r = 3 ∨ r = 4 ∨ r = 5 := by omega
  rcases h with rfl | rfl | rfl | rfl | rfl | rfl
  · exact ⟨a, rfl, by simp⟩
  · exact ⟨b, rfl, by simp⟩
  · exact ⟨c, rfl, by simp⟩
  · exact ⟨d, rfl, by simp⟩
  · exact ⟨e, rfl, by simp⟩
  · exact ⟨f, rfl, by simp⟩
/-- the same conditions, each share as great or greater -/
inductive Wider : List PyData → List PyData → Prop
  | nil : Wider [] []
  | cons {c : PyData} {m m' : Int} {ds es : List PyData} (h : m ≤ m') (t : Wider ds es) : Wider (.tuple [c, .int m] :: ds) (.tuple [c, .int m'] :: es)
theorem Wider.share {l p : Int} : ∀ {ds es : List PyData}, Wider ds es → shareL ds l p ≤ shareL es l p
  | _, _, .nil => Int.le_refl _
  | _, _, .cons (c := c) h t => by
    simp only [shareL]
    split
    · exact h
    · exact t.share
theorem Wider.snoc {c : PyData} {m m' : Int} : ∀ {ds es : List PyData}, Wider ds es → m ≤ m' → Wider (ds ++ [.tuple [c, .int m]]) (es ++ [.tuple [c, .int m']])
  | _, _, .nil, h => .cons h .nil
  | _, _, .cons h' t, h => .cons h' (t.snoc h)
def spWider (K : PySem.W.Frag) : Sp := fun vs H Q _ => ∃ (v : V) (a : Addr) (ds : List PyData), vs = [v, .ref a] ∧ Dice H a ∧ Dp K H v (.tuple ds) ∧ RulesG ds ∧ ∀ v' es H', But a H H' → Dp K H' v' (.tuple es) → RulesG es → Wider ds es → Q v' H'
/-- whether a rule holds -/
def ruleFits (d : PyData) (l p : Int) : Bool := match d with
  | .tuple [c, _] => fitsD 5 c l p
  | _ => false
/-- the place of the first rule that holds -/
def metL (ds : List PyData) (l p : Int) : Option Nat := ds.findIdx? fun d => ruleFits d l p
def natV : Option Nat → V
  | some i => .int (i : Nat)
  | none => .non
def spMetBy (K : PySem.W.Frag) : Sp := fun vs H Q _ => ∃ (v : V) (ds : List PyData) (l p : Int), vs = [v, .int l, .int p] ∧ Dp K H v (.tuple ds) ∧ okD (.tuple ds) = true ∧ areRules (.tuple ds) = true ∧ ∀ H', Same H H' → Q (natV (metL ds l p)) H'
theorem findIdx?_at {p : PyData → Bool} {ds : List PyData} {i : Nat} {e : PyData} (h : ds[i]? = some e) (hp : p e = true) (hn : ∀ y ∈ ds.take i, p y = false) : ds.findIdx? p = some i := by
  obtain ⟨hi, ei⟩ := List.getElem?_eq_some_iff.mp h
  rw [List.findIdx?_eq_some_iff_getElem]
  refine ⟨hi, by rw [ei]; exact hp, fun j hj => ?_⟩
  have := hn ds[j] (by
    rw [List.mem_take_iff_getElem]
    exact ⟨j, by omega, rfl⟩)
  simp [this]
theorem findIdx?_no {p : PyData → Bool} {ds : List PyData} (hn : ∀ y ∈ ds, p y = false) : ds.findIdx? p = none := by
  rw [List.findIdx?_eq_none_iff]
  exact hn
def idleL (ds : List PyData) : List Nat := (List.range ds.length).filter fun i => !(kindL.any fun k => metL ds k.1 k.2 == some i)
def spIdle (K : PySem.W.Frag) : Sp := fun vs H Q E => ∃ (v : V) (d : PyData), vs = [v] ∧ Dp K H v d ∧ okD d = true ∧ (∀ ds, d = .tuple ds → areRules d = true → ∀ (L : Addr) (H' : Hp), Same H H' → H L = none → H' L = some (.lst ((idleL ds).map fun i => V.int (i : Nat))) → Q (.ref L) H') ∧
  (areRules d = false → ∀ H', Same H H' → E (.ref (He.ga K "BadRules")) none H')
theorem flat_natV (l : List (Option Nat)) : (l.map natV).all flatV = true := by
  rw [List.all_map, List.all_eq_true]
  intro o _
  cases o <;> rfl
theorem inV_natV (i : Nat) (l : List (Option Nat)) : inV (.int (i : Nat)) (l.map natV) = l.any fun o => o == some i := by
  unfold inV
  rw [List.any_map]
  congr 1
  funext o
  cases o with
  | none => rfl
  | some j =>
    show ((j : Int) == (i : Int)) = (some j == some i)
    rw [Bool.eq_iff_iff, beq_iff_eq, beq_iff_eq, Option.some.injEq]
    omega
def plainRow (ds : List PyData) (l : Int) : List Int := (List.range 4).map fun (p : Nat) => shareL ds l (p : Int)
def plainD (ds : List PyData) : List PyData := (List.range 6).map fun (l : Nat) => .list ((plainRow ds (l : Int)).map PyData.int)
def spPlain (K : PySem.W.Frag) : Sp := fun vs H Q E => ∃ (v : V) (d : PyData), vs = [v] ∧ Dp K H v d ∧ okD d = true ∧ (∀ ds, d = .tuple ds → areRules d = true → ∀ (L : Addr) (H' : Hp), Same H H' → H L = none → Dp K H' (.ref L) (.list (plainD ds)) → Q (.ref L) H') ∧
  (areRules d = false → ∀ H', Same H H' → E (.ref (He.ga K "BadRules")) none H')
theorem dpAll_rows {K : PySem.W.Frag} {H : Hp} {f : Nat → List Int} : ∀ {as : List Addr} {m : Nat}, (∀ (j : Nat) (b : Addr), as[j]? = some b → H b = some (.lst ((f (m + j)).map V.int))) → DpAll K H (as.map V.ref) ((List.range as.length).map fun j => PyData.list ((f (m + j)).map PyData.int))
  | [], _, _ => .nil
  | a :: as, m, h => by
    rw [List.length_cons, List.range_succ_eq_map, List.map_cons, List.map_cons, List.map_map]
    refine .cons (dp_ints (lstOf (h 0 a rfl))) ?_
    have := dpAll_rows (K := K) (H := H) (f := f) (as := as) (m := m + 1) fun j b hb => by
      have := h (j + 1) b hb
      rw [show m + 1 + j = m + (j + 1) by omega]
      exact this
    have e : ((fun j => PyData.list ((f (m + j)).map PyData.int)) ∘ Nat.succ) = fun j => PyData.list ((f (m + 1 + j)).map PyData.int) := by
      funext j
      show PyData.list ((f (m + (j + 1))).map PyData.int) = _
      rw [show m + (j + 1) = m + 1 + j by omega]
    rw [e]
    exact this
/-- lists of shares -/
def isShareRow : PyData → Bool
  | .list xs => decide (xs.length = 4) && xs.all fun y => isNum y 0 100
  | _ => false
def isShares : PyData → Bool
  | .list rows => decide (rows.length = 6) && rows.all isShareRow
  | _ => false
def rowD (r : List Int) : PyData := .list (r.map PyData.int)
def sharesD (m : List (List Int)) : PyData := .list (m.map rowD)
structure ShM (m : List (List Int)) : Prop where
  six : m.length = 6
  four : ∀ r ∈ m, r.length = 4
  rng : ∀ r ∈ m, ∀ x ∈ r, 0 ≤ x ∧ x ≤ 100
theorem isShareRow_inv {d : PyData} (h : isShareRow d = true) : ∃ r, d = rowD r ∧ r.length = 4 ∧ ∀ x ∈ r, 0 ≤ x ∧ x ≤ 100 := by
  cases d with
  | list xs =>
    simp only [isShareRow, Bool.and_eq_true, decide_eq_true_eq] at h
    obtain ⟨ns, rfl⟩ := all_nums h.2
    refine ⟨ns, rfl, by simpa using h.1, fun x hx => ?_⟩
    have h2 := List.all_eq_true.mp h.2 (.int x) (List.mem_map.mpr ⟨x, hx, rfl⟩)
    obtain ⟨i, e, h3, h4⟩ := isNum_int h2
    cases e
    exact ⟨h3, h4⟩
  | _ => cases h
theorem rows_inv : ∀ {ds : List PyData}, ds.all isShareRow = true → ∃ m : List (List Int), ds = m.map rowD ∧ (∀ r ∈ m, r.length = 4) ∧ ∀ r ∈ m, ∀ x ∈ r, 0 ≤ x ∧ x ≤ 100
  | [], _ => ⟨[], rfl, by simp, by simp⟩
  | d :: ds, h => by
    simp only [List.all_cons, Bool.and_eq_true] at h
    obtain ⟨r, rfl, h1, h2⟩ := isShareRow_inv h.1
    obtain ⟨m, rfl, h3, h4⟩ := rows_inv h.2
    refine ⟨r :: m, rfl, fun y hy => ?_, fun y hy => ?_⟩
    · rcases List.mem_cons.mp hy with rfl | hy
      · exact h1
      · exact h3 y hy
    · rcases List.mem_cons.mp hy with rfl | hy
      · exact h2
      · exact h4 y hy
theorem isShares_inv {d : PyData} (h : isShares d = true) : ∃ m, d = sharesD m ∧ ShM m := by
  cases d with
  | list rows =>
    simp only [isShares, Bool.and_eq_true, decide_eq_true_eq] at h
    obtain ⟨m, rfl, h1, h2⟩ := rows_inv h.2
    exact ⟨m, rfl, by simpa using h.1, h1, h2⟩
  | _ => cases h
theorem isShares_mk {m : List (List Int)} (h : ShM m) : isShares (sharesD m) = true := by
  simp only [isShares, sharesD, List.length_map, h.six, decide_true, Bool.true_and, List.all_map, List.all_eq_true]
  intro r hr
  simp only [Function.comp, rowD, isShareRow, List.length_map, h.four r hr, decide_true, Bool.true_and, List.all_map, List.all_eq_true]
  intro x hx
  have := h.rng r hr x hx
  simp [Function.comp, isNum, this]
theorem isShares_no {d : PyData} (h : isListD d = false) : isShares d = false := by
  cases d <;> first | rfl | cases h
theorem isShareRow_no {d : PyData} (h : isListD d = false) : isShareRow d = false := by
  cases d <;> first | rfl | cases h
theorem is_list {d : PyData} (h : isListD d = true) : ∃ ds, d = .list ds := by
  cases d <;> first | exact ⟨_, rfl⟩ | cases h
def spIsShares (K : PySem.W.Frag) : Sp := fun vs H Q _ => ∃ (v : V) (d : PyData), vs = [v] ∧ Dp K H v d ∧ ∀ H', Same H H' → Q (.bl (isShares d)) H'
/-- one condition that holds where any of some does -/
def anyOf (ds : List PyData) : PyData := if ds.length = 1 then ds.getD 0 .none else if ds.length < 6 then .tuple ([.str "or"] ++ ds) else .tuple ([.str "or"] ++ ds.take 4 ++ [.tuple ([.str "or"] ++ ds.drop 4)])
def spAnyOf (K : PySem.W.Frag) : Sp := fun vs H Q _ => ∃ (p : Addr) (xs : List V) (ds : List PyData), vs = [.ref p] ∧ H p = some (.lst xs) ∧ DpAll K H xs ds ∧ 1 ≤ ds.length ∧ ds.length ≤ 9 ∧ ∀ u H', Same H H' → Dp K H' u (anyOf ds) → Q u H'
/-- the plans of a row that have a share; the lands by their plans -/
def plansOf (x : Int) (r : List Int) : List Int := ((List.range 4).filter fun p => decide (r.getD p 0 = x)).map fun (p : Nat) => (p : Int)
def lsOf (g : List (List Int × List Int)) (ps : List Int) : List Int := ((g.find? fun e => decide (e.1 = ps)).map (·.2)).getD []
def ups (g : List (List Int × List Int)) (ps : List Int) (l : Int) : List (List Int × List Int) :=
  if g.any (fun e => decide (e.1 = ps)) = true then g.map (fun e => if e.1 = ps then (e.1, lsOf g ps ++ [l]) else e) else g ++ [(ps, lsOf g ps ++ [l])]
def grpTo (x : Int) (m : List (List Int)) : Nat → List (List Int × List Int)
  | 0 => []
  | n + 1 => if plansOf x (m.getD n []) = [] then grpTo x m n else ups (grpTo x m n) (plansOf x (m.getD n [])) (n : Int)
def intsD (ns : List Int) : PyData := .tuple (ns.map PyData.int)
def grpD (e : List Int × List Int) : PyData := .tuple [.str "and", .tuple [.str "land", intsD e.2], .tuple [.str "plan", intsD e.1]]
def condFor (m : List (List Int)) (x : Int) : PyData := anyOf ((grpTo x m 6).map grpD)
/-- the dict of the groups -/
def GrpV (K : PySem.W.Frag) (H : Hp) : List (List Key × V) → List (List Int × List Int) → Prop
  | [], [] => True
  | (k, v) :: kvs, (ps, ls) :: g => k = ps.map Sum.inl ∧ Dp K H v (intsD ls) ∧ GrpV K H kvs g
  | _, _ => False
theorem grp_s {K : PySem.W.Frag} {H H2 : Hp} (s : Same H H2) : ∀ {kvs : List (List Key × V)} {g : List (List Int × List Int)}, GrpV K H kvs g → GrpV K H2 kvs g
  | [], [], _ => True.intro
  | (k, v) :: kvs, (ps, ls) :: g, h => ⟨h.1, dp_s s h.2.1, grp_s s h.2.2⟩
theorem grp_mut {K : PySem.W.Frag} {H : Hp} {D : Addr} {o : HO} (h : ∀ {v : V} {ns : List Int}, Dp K H v (intsD ns) → Dp K (upd H D o) v (intsD ns)) : ∀ {kvs : List (List Key × V)} {g : List (List Int × List Int)}, GrpV K H kvs g → GrpV K (upd H D o) kvs g
  | [], [], _ => True.intro
  | (k, v) :: kvs, (ps, ls) :: g, z => ⟨z.1, h z.2.1, grp_mut h z.2.2⟩
theorem inl_inj : ∀ {a b : List Int}, a.map (Sum.inl : Int → Key) = b.map Sum.inl → a = b
  | [], [], _ => rfl
  | [], _ :: _, h => by simp at h
  | _ :: _, [], h => by simp at h
  | x :: a, y :: b, h => by
    rw [List.map_cons, List.map_cons] at h
    injection h with h1 h2
    injection h1 with h1
    rw [h1, inl_inj h2]
theorem grp_any {K : PySem.W.Frag} {H : Hp} {ps : List Int} : ∀ {kvs : List (List Key × V)} {g : List (List Int × List Int)}, GrpV K H kvs g → (kvs.any fun kv => decide (kv.1 = ps.map Sum.inl)) = g.any fun e => decide (e.1 = ps)
  | [], [], _ => rfl
  | (k, v) :: kvs, (qs, ls) :: g, h => by
    rw [List.any_cons, List.any_cons, grp_any h.2.2]
    congr 1
    obtain ⟨rfl, _⟩ := h
    by_cases e : qs = ps
    · subst e
      simp
    · simp only [decide_eq_false e, decide_eq_false (fun z => e (inl_inj z))]
theorem grp_val {K : PySem.W.Frag} {H : Hp} {ps : List Int} : ∀ {kvs : List (List Key × V)} {g : List (List Int × List Int)}, GrpV K H kvs g → (valV kvs (ps.map Sum.inl) = none ∧ lsOf g ps = []) ∨ ∃ v, valV kvs (ps.map Sum.inl) = some v ∧ Dp K H v (intsD (lsOf g ps))
  | [], [], _ => .inl ⟨rfl, rfl⟩
  | (k, v) :: kvs, (qs, ls) :: g, h => by
    obtain ⟨rfl, h2, h3⟩ := h
    by_cases e : qs = ps
    · subst e
      refine .inr ⟨v, valV_pos rfl, ?_⟩
      have : lsOf ((qs, ls) :: g) qs = ls := by simp [lsOf]
      rw [this]
      exact h2
    · have e2 : lsOf ((qs, ls) :: g) ps = lsOf g ps := by simp [lsOf, e]
      rw [e2, valV_neg (fun z => e (inl_inj z))]
      exact grp_val h3
theorem grp_map {K : PySem.W.Frag} {H : Hp} {ps ns : List Int} {v' : V} (hv : Dp K H v' (intsD ns)) : ∀ {kvs : List (List Key × V)} {g : List (List Int × List Int)}, GrpV K H kvs g → GrpV K H (kvs.map fun kv => if kv.1 = ps.map Sum.inl then (kv.1, v') else kv) (g.map fun e => if e.1 = ps then (e.1, ns) else e)
  | [], [], _ => True.intro
  | (k, v) :: kvs, (qs, ls) :: g, h => by
    obtain ⟨rfl, h2, h3⟩ := h
    rw [List.map_cons, List.map_cons]
    by_cases e : qs = ps
    · subst e
      rw [if_pos rfl, if_pos rfl]
      exact ⟨rfl, hv, grp_map hv h3⟩
    · rw [if_neg (fun z => e (inl_inj z)), if_neg e]
      exact ⟨rfl, h2, grp_map hv h3⟩
theorem grp_snoc {K : PySem.W.Frag} {H : Hp} {ps ns : List Int} {v' : V} (hv : Dp K H v' (intsD ns)) : ∀ {kvs : List (List Key × V)} {g : List (List Int × List Int)}, GrpV K H kvs g → GrpV K H (kvs ++ [(ps.map Sum.inl, v')]) (g ++ [(ps, ns)])
  | [], [], _ => ⟨rfl, hv, True.intro⟩
  | (k, v) :: kvs, (qs, ls) :: g, h => ⟨h.1, h.2.1, grp_snoc hv h.2.2⟩
theorem grp_put {K : PySem.W.Frag} {H : Hp} {ps : List Int} {l : Int} {v' : V} {kvs : List (List Key × V)} {g : List (List Int × List Int)} (h : GrpV K H kvs g) (hv : Dp K H v' (intsD (lsOf g ps ++ [l]))) : GrpV K H (putK kvs (ps.map Sum.inl) v') (ups g ps l) := by
  unfold putK ups
  rw [grp_any (ps := ps) h]
  split
  · exact grp_map hv h
  · exact grp_snoc hv h
theorem grp_len {K : PySem.W.Frag} {H : Hp} : ∀ {kvs : List (List Key × V)} {g : List (List Int × List Int)}, GrpV K H kvs g → kvs.length = g.length
  | [], [], _ => rfl
  | (k, v) :: kvs, (ps, ls) :: g, h => by rw [List.length_cons, List.length_cons, grp_len h.2.2]
theorem grp_at {K : PySem.W.Frag} {H : Hp} : ∀ {kvs : List (List Key × V)} {g : List (List Int × List Int)} {i : Nat} {k : List Key} {v : V}, GrpV K H kvs g → kvs[i]? = some (k, v) → ∃ e, g[i]? = some e ∧ k = e.1.map Sum.inl ∧ Dp K H v (intsD e.2)
  | [], [], _, _, _, _, h => by simp at h
  | (k, v) :: kvs, (ps, ls) :: g, 0, _, _, h, e => by
    simp at e
    obtain ⟨rfl, rfl⟩ := e
    exact ⟨_, rfl, h.1, h.2.1⟩
  | (k, v) :: kvs, (ps, ls) :: g, i + 1, _, _, h, e => by
    obtain ⟨x, h1, h2⟩ := grp_at (i := i) h.2.2 (by simpa using e)
    exact ⟨x, by simpa using h1, h2⟩
theorem ups_len {g : List (List Int × List Int)} {ps : List Int} {l : Int} : (ups g ps l).length ≤ g.length + 1 := by
  unfold ups
  split <;> simp
theorem grpTo_len (x : Int) (m : List (List Int)) : ∀ n, (grpTo x m n).length ≤ n
  | 0 => by simp [grpTo]
  | n + 1 => by
    have h := grpTo_len x m n
    unfold grpTo
    split
    · omega
    · exact Nat.le_trans ups_len (by omega)
/-- what the groups are -/
structure GrpI (x : Int) (m : List (List Int)) (n : Nat) (g : List (List Int × List Int)) : Prop where
  ne : ∀ e ∈ g, e.1 ≠ [] ∧ (∃ l, l < n ∧ plansOf x (m.getD l []) = e.1) ∧ e.2 = ((List.range n).filter fun l => decide (plansOf x (m.getD l []) = e.1)).map fun (l : Nat) => (l : Int)
  nd : (g.map (·.1)).Nodup
  cv : ∀ l, l < n → plansOf x (m.getD l []) ≠ [] → ∃ e ∈ g, e.1 = plansOf x (m.getD l [])
theorem lsOf_in {g : List (List Int × List Int)} {e : List Int × List Int} (nd : (g.map (·.1)).Nodup) (h : e ∈ g) : lsOf g e.1 = e.2 := by
  induction g with
  | nil => cases h
  | cons a g ih =>
    rw [List.map_cons, List.nodup_cons] at nd
    rcases List.mem_cons.mp h with rfl | h
    · simp [lsOf]
    · have hn : a.1 ≠ e.1 := fun z => nd.1 (z ▸ List.mem_map.mpr ⟨e, h, rfl⟩)
      have : lsOf (a :: g) e.1 = lsOf g e.1 := by simp [lsOf, hn]
      rw [this, ih nd.2 h]
theorem lsOf_out {g : List (List Int × List Int)} {ps : List Int} (h : ∀ e ∈ g, e.1 ≠ ps) : lsOf g ps = [] := by
  unfold lsOf
  rw [List.find?_eq_none.mpr (by simpa using h)]
  rfl
theorem grpI (x : Int) (m : List (List Int)) : ∀ n, GrpI x m n (grpTo x m n)
  | 0 => ⟨by simp [grpTo], by simp [grpTo], fun l h => by omega⟩
  | n + 1 => by
    have h := grpI x m n
    unfold grpTo
    by_cases hp : plansOf x (m.getD n []) = []
    · rw [if_pos hp]
      refine ⟨fun e he => ?_, h.nd, fun l hl hn => ?_⟩
      · obtain ⟨h1, ⟨l, h2, h3⟩, h4⟩ := h.ne e he
        refine ⟨h1, ⟨l, by omega, h3⟩, ?_⟩
        rw [List.range_succ, List.filter_append, List.map_append, ← h4]
        rw [List.filter_cons_of_neg (by simp only [decide_eq_true_eq, hp]; exact fun z => h1 z.symm)]
        simp
      · rcases Nat.lt_or_ge l n with q | q
        · exact h.cv l q hn
        · have : l = n := by omega
          subst this
          exact absurd hp hn
    · rw [if_neg hp]
      generalize hg : grpTo x m n = g at h
      have hls : lsOf g (plansOf x (m.getD n [])) = ((List.range n).filter fun l => decide (plansOf x (m.getD l []) = plansOf x (m.getD n []))).map fun (l : Nat) => (l : Int) := by
        by_cases hin : ∃ e ∈ g, e.1 = plansOf x (m.getD n [])
        · obtain ⟨e, he, hee⟩ := hin
          rw [← hee, lsOf_in h.nd he]
          exact (h.ne e he).2.2
        · rw [lsOf_out fun e he z => hin ⟨e, he, z⟩]
          symm
          rw [List.map_eq_nil_iff, List.filter_eq_nil_iff]
          intro l hl
          rw [List.mem_range] at hl
          simp only [decide_eq_true_eq]
          intro z
          obtain ⟨e, he, hee⟩ := h.cv l hl (by rw [z]; exact hp)
          exact hin ⟨e, he, by rw [hee, z]⟩
      have hnew : lsOf g (plansOf x (m.getD n [])) ++ [(n : Int)] = ((List.range (n + 1)).filter fun l => decide (plansOf x (m.getD l []) = plansOf x (m.getD n []))).map fun (l : Nat) => (l : Int) := by
        rw [List.range_succ, List.filter_append, List.map_append, ← hls, List.filter_cons_of_pos (by simp)]
        simp
      have hold : ∀ e ∈ g, e.1 ≠ plansOf x (m.getD n []) → e.1 ≠ [] ∧ (∃ l, l < n + 1 ∧ plansOf x (m.getD l []) = e.1) ∧ e.2 = ((List.range (n + 1)).filter fun l => decide (plansOf x (m.getD l []) = e.1)).map fun (l : Nat) => (l : Int) := fun e he hne => by
        obtain ⟨h1, ⟨l, h2, h3⟩, h4⟩ := h.ne e he
        refine ⟨h1, ⟨l, by omega, h3⟩, ?_⟩
        rw [List.range_succ, List.filter_append, List.map_append, ← h4]
        rw [List.filter_cons_of_neg (by simp only [decide_eq_true_eq]; exact fun z => hne z.symm)]
        simp
      unfold ups
      split
      · rename_i hany
        obtain ⟨e0, he0, hee0⟩ := List.any_eq_true.mp hany
        have hee0 := of_decide_eq_true hee0
        have hkeys : (g.map fun e => if e.1 = plansOf x (m.getD n []) then (e.1, lsOf g (plansOf x (m.getD n [])) ++ [(n : Int)]) else e).map (·.1) = g.map (·.1) := by
          rw [List.map_map]
          apply List.map_congr_left
          intro e _
          simp only [Function.comp]
          split <;> rfl
        refine ⟨fun e he => ?_, by rw [hkeys]; exact h.nd, fun l hl hn => ?_⟩
        · obtain ⟨f, hf, rfl⟩ := List.mem_map.mp he
          split
          · rename_i hfe
            refine ⟨by simp only [hfe]; exact hp, ⟨n, by omega, hfe.symm⟩, ?_⟩
            simp only [hfe]
            exact hnew
          · rename_i hfe
            exact hold f hf hfe
        · have hk : ∃ f ∈ g, f.1 = plansOf x (m.getD l []) := by
            rcases Nat.lt_or_ge l n with q | q
            · exact h.cv l q hn
            · have : l = n := by omega
              subst this
              exact ⟨e0, he0, hee0⟩
          obtain ⟨f, hf, hfe⟩ := hk
          refine ⟨_, List.mem_map.mpr ⟨f, hf, rfl⟩, ?_⟩
          split <;> exact hfe
      · rename_i hany
        have hany : ∀ e ∈ g, e.1 ≠ plansOf x (m.getD n []) := fun e he z => hany (List.any_eq_true.mpr ⟨e, he, decide_eq_true z⟩)
        refine ⟨fun e he => ?_, ?_, fun l hl hn => ?_⟩
        · rcases List.mem_append.mp he with he | he
          · exact hold e he (hany e he)
          · cases List.mem_singleton.mp he
            exact ⟨hp, ⟨n, by omega, rfl⟩, hnew⟩
        · rw [List.map_append, List.nodup_append]
          refine ⟨h.nd, by simp, fun a ha b hb => ?_⟩
          obtain ⟨e, he, rfl⟩ := List.mem_map.mp ha
          cases List.mem_singleton.mp hb
          exact hany e he
        · rcases Nat.lt_or_ge l n with q | q
          · obtain ⟨e, he, hee⟩ := h.cv l q hn
            exact ⟨e, List.mem_append_left _ he, hee⟩
          · have : l = n := by omega
            subst this
            exact ⟨_, List.mem_append_right _ (List.mem_singleton.mpr rfl), rfl⟩
theorem plansOf_mem {x p : Int} {r : List Int} : p ∈ plansOf x r ↔ 0 ≤ p ∧ p ≤ 3 ∧ r.getD p.toNat 0 = x := by
  unfold plansOf
  rw [List.mem_map]
  constructor
  · rintro ⟨k, hk, rfl⟩
    rw [List.mem_filter, List.mem_range] at hk
    exact ⟨by omega, by omega, by simpa using hk.2⟩
  · rintro ⟨h1, h2, h3⟩
    refine ⟨p.toNat, List.mem_filter.mpr ⟨List.mem_range.mpr (by omega), by simpa using h3⟩, by omega⟩
theorem ris_map {l : List Nat} (h : l.Pairwise (· < ·)) : (l.map fun (k : Nat) => (k : Int)).Pairwise (· < ·) := List.pairwise_map.mpr (h.imp fun z => by omega)
theorem plansOf_ris (x : Int) (r : List Int) : (plansOf x r).Pairwise (· < ·) := ris_map (List.Pairwise.filter _ List.pairwise_lt_range)
/-- a group as a condition -/
structure CndP (k : Nat) (b : Int) (d : PyData) : Prop where
  im : imm d = true
  cl : d.canLay0 = true
  dp : d.depth ≤ 10 * k
  nr : narrow d = true
  p0 : 1 ≤ partsOf k d
  p1 : partsOf k d ≤ b
theorem CndP.ne {k : Nat} {b : Int} {d : PyData} (g : CndP k b d) : partsOf k d ≠ 0 := by
  have := g.p0
  omega
theorem CndP.up {k : Nat} {b c : Int} {d : PyData} (g : CndP k b d) (h : b ≤ c) : CndP (k + 1) c d := by
  have e := (parts_up k d g.ne).1
  exact ⟨g.im, g.cl, by have := g.dp; omega, g.nr, by rw [e]; exact g.p0, by rw [e]; exact Int.le_trans g.p1 h⟩
theorem cnd_leaf {z : Str} {m : Int} {ns : List Int} (hz : (z = "land" ∧ m = 6) ∨ (z = "plan" ∧ m = 4)) (hl : ns.length ≤ 100) (h : isRow (intsD ns) m = true) : CndP 1 1 (.tuple [.str z, intsD ns]) := by
  have g := condG_leaf (k := 1) (z := z) (by decide) hz hl h
  exact ⟨g.im, g.cl, g.dp, g.nr, g.p0, g.p1⟩
theorem cnd_node {k : Nat} {b : Int} {z : Str} {a : PyData} {r : List PyData} (hz : z = "and" ∨ z = "or") (h1 : 1 ≤ r.length) (h4 : r.length ≤ 4) (h : ∀ y ∈ a :: r, CndP k b y) : CndP (k + 1) (1 + (r.length + 1 : Nat) * b) (.tuple (.str z :: a :: r)) := by
  have hp : partsOf (k + 1) (.tuple (.str z :: a :: r)) = 1 + ((a :: r).map (partsOf k)).sum := by
    rw [partsOf_more (by rcases hz with rfl | rfl <;> decide) (by rcases hz with rfl | rfl <;> decide)]
    have hgg : (((decide (z = "and") || decide (z = "or")) && (decide (1 ≤ r.length) && decide (r.length ≤ 4))) || (decide (z = "not") && r.isEmpty)) = true := by
      rcases hz with rfl | rfl <;> simp [h1, h4]
    have hc : ((a :: r).map (partsOf k)).contains 0 = false := by
      cases e : ((a :: r).map (partsOf k)).contains 0 with
      | false => rfl
      | true =>
        rw [List.contains_iff_mem] at e
        obtain ⟨y, hy, e⟩ := List.mem_map.mp e
        exact absurd e (h y hy).ne
    rw [hgg, hc]
    rfl
  have hs := sum_bnd (f := partsOf k) (b := b) (ds := a :: r) fun d hd => ⟨(h d hd).p0, (h d hd).p1⟩
  have hdep := depthAll_le (m := 10 * k) (ds := a :: r) fun d hd => (h d hd).dp
  have hcl := canLayAll_mem (ds := a :: r) fun d hd => (h d hd).cl
  have hnr := narrowAll_of (ds := a :: r) fun d hd => (h d hd).nr
  have him := immAll_mem (l := a :: r) fun d hd => (h d hd).im
  have hzl : PyData.canLay0 (.str z) = true := by
    rcases hz with rfl | rfl
    · exact strOk_and
    · exact strOk_or
  refine ⟨?_, ?_, ?_, ?_, ?_, ?_⟩
  · simp only [imm, immAll, Bool.true_and] at him ⊢
    exact him
  · simp only [PyData.canLay0] at hzl
    simp only [PyData.canLay0, PyData.canLayAll0, hzl, Bool.true_and] at hcl ⊢
    exact hcl
  · simp only [PyData.depth, PyData.depthAll] at hdep ⊢
    omega
  · simp only [narrow, narrowAll, Bool.true_and, List.length_cons] at hnr ⊢
    rw [hnr, Bool.and_true, decide_eq_true_eq]
    omega
  · rw [hp]
    have := hs.1
    simp only [List.length_cons] at this
    omega
  · rw [hp]
    have h3 := hs.2
    simp only [List.length_cons] at h3
    omega
structure GrpG (x : Int) (m : List (List Int)) (e : List Int × List Int) : Prop where
  c : CndP 2 3 (grpD e)
  f : ∀ l p, fitsD 2 (grpD e) l p = (e.2.contains l && e.1.contains p)
theorem grpG {x : Int} {m : List (List Int)} (hm : ShM m) {e : List Int × List Int} (he : e ∈ grpTo x m 6) : GrpG x m e := by
  obtain ⟨h1, ⟨l, h2, h3⟩, h4⟩ := (grpI x m 6).ne e he
  have hr1 : isRow (intsD e.1) 4 = true := isRow_mk h1 (by rw [← h3]; exact plansOf_ris _ _) fun i hi => by
    rw [← h3, plansOf_mem] at hi
    omega
  have hr2 : isRow (intsD e.2) 6 = true := isRow_mk (by
      intro z
      rw [h4, List.map_eq_nil_iff, List.filter_eq_nil_iff] at z
      exact z l (List.mem_range.mpr h2) (decide_eq_true h3)) (by rw [h4]; exact ris_map (List.Pairwise.filter _ List.pairwise_lt_range)) fun i hi => by
    rw [h4, List.mem_map] at hi
    obtain ⟨k, hk, rfl⟩ := hi
    rw [List.mem_filter, List.mem_range] at hk
    omega
  have l1 : e.1.length ≤ 100 := by
    rw [← h3]
    have : (plansOf x (m.getD l [])).length ≤ 4 := by
      unfold plansOf
      rw [List.length_map]
      exact Nat.le_trans (List.length_filter_le _ _) (by simp)
    omega
  have l2 : e.2.length ≤ 100 := by
    rw [h4, List.length_map]
    exact Nat.le_trans (List.length_filter_le _ _) (by simp)
  refine ⟨?_, fun l p => ?_⟩
  · exact cnd_node (k := 1) (b := 1) (a := .tuple [.str "land", intsD e.2]) (r := [.tuple [.str "plan", intsD e.1]]) (.inl rfl) (by simp) (by simp) fun y hy => by
      rcases List.mem_cons.mp hy with rfl | hy
      · exact cnd_leaf (.inl ⟨rfl, rfl⟩) l2 hr2
      · cases List.mem_singleton.mp hy
        exact cnd_leaf (.inr ⟨rfl, rfl⟩) l1 hr1
  · unfold grpD intsD
    rw [fitsD_and, List.all_cons, List.all_cons, List.all_nil, fitsD_land, fitsD_plan, inRowD_ints, inRowD_ints, Bool.and_true]
/-- the condition of the lands and plans that have a share -/
structure CndX (f : Int → Int → Bool) (d : PyData) : Prop where
  k : ∃ k, k ≤ 4 ∧ CndP k 40 d
  f : ∀ l p, fitsD 5 d l p = f l p
theorem anyOf_cnd {x : Int} {m : List (List Int)} (ds : List (List Int × List Int)) (h1 : 1 ≤ ds.length) (h6 : ds.length ≤ 6) (h : ∀ e ∈ ds, GrpG x m e) : CndX (fun l p => ds.any fun e => e.2.contains l && e.1.contains p) (anyOf (ds.map grpD)) := by
  have fany : ∀ l p, (ds.map grpD).any (fun y => fitsD 2 y l p) = ds.any fun e => e.2.contains l && e.1.contains p := fun l p => by
    rw [List.any_map]
    induction ds with
    | nil => rfl
    | cons a r ih =>
      rw [List.any_cons, List.any_cons, Function.comp, (h a (by simp)).f l p]
      congr 1
      cases r with
      | nil => rfl
      | cons b r => exact ih (by simp) (by simp at h6 ⊢; omega) fun e he => h e (by simp [he])
  unfold anyOf
  rw [List.length_map]
  by_cases e1 : ds.length = 1
  · rw [if_pos e1]
    match ds, e1 with
    | [e], _ =>
      have g := h e (by simp)
      have c : CndP 2 40 (grpD e) := ⟨g.c.im, g.c.cl, g.c.dp, g.c.nr, g.c.p0, Int.le_trans g.c.p1 (by decide)⟩
      refine ⟨⟨2, by decide, c⟩, fun l p => ?_⟩
      rw [← fany l p]
      show fitsD 5 (grpD e) l p = _
      rw [(parts_five c.ne (by decide)).2 l p]
      simp
  · rw [if_neg e1]
    by_cases e6 : ds.length < 6
    · rw [if_pos e6]
      match ds, e1, h1, e6 with
      | a :: r, e1, h1, e6 =>
        simp only [List.length_cons] at e1 e6
        have c := cnd_node (k := 2) (b := 3) (z := "or") (a := grpD a) (r := r.map grpD) (.inr rfl) (by rw [List.length_map]; omega) (by rw [List.length_map]; omega) fun y hy => by
          obtain ⟨e, he, rfl⟩ := List.mem_map.mp (show y ∈ (a :: r).map grpD from hy)
          exact (h e he).c
        have c2 : CndP 3 40 (.tuple (.str "or" :: grpD a :: r.map grpD)) := ⟨c.im, c.cl, c.dp, c.nr, c.p0, Int.le_trans c.p1 (by rw [List.length_map]; omega)⟩
        refine ⟨⟨3, by decide, c2⟩, fun l p => ?_⟩
        rw [← fany l p]
        show fitsD 5 (.tuple (.str "or" :: grpD a :: r.map grpD)) l p = _
        rw [(parts_five c2.ne (by decide)).2 l p, fitsD_or]
        rfl
    · rw [if_neg e6]
      match ds, (show ds.length = 6 by omega) with
      | [a, b, c, d, e, f], _ =>
        have hg : ∀ y ∈ [a, b, c, d, e, f], GrpG x m y := h
        have ci := cnd_node (k := 2) (b := 3) (z := "or") (a := grpD e) (r := [grpD f]) (.inr rfl) (by simp) (by simp) fun y hy => by
          obtain ⟨z, hz, rfl⟩ := List.mem_map.mp (show y ∈ [e, f].map grpD from hy)
          exact (hg z (by simp only [List.mem_cons, List.not_mem_nil, or_false] at hz; rcases hz with rfl | rfl <;> simp)).c
        have c7 : ∀ y ∈ grpD a :: [grpD b, grpD c, grpD d, .tuple (.str "or" :: grpD e :: [grpD f])], CndP 3 7 y := fun y hy => by
          simp only [List.mem_cons, List.not_mem_nil, or_false] at hy
          rcases hy with rfl | rfl | rfl | rfl | rfl
          · exact (hg a (by simp)).c.up (by decide)
          · exact (hg b (by simp)).c.up (by decide)
          · exact (hg c (by simp)).c.up (by decide)
          · exact (hg d (by simp)).c.up (by decide)
          · exact ⟨ci.im, ci.cl, ci.dp, ci.nr, ci.p0, Int.le_trans ci.p1 (by simp only [List.length_cons, List.length_nil]; decide)⟩
        have co := cnd_node (k := 3) (b := 7) (z := "or") (a := grpD a) (r := [grpD b, grpD c, grpD d, .tuple (.str "or" :: grpD e :: [grpD f])]) (.inr rfl) (by simp) (by simp) c7
        have c2 : CndP 4 40 (.tuple (.str "or" :: grpD a :: [grpD b, grpD c, grpD d, .tuple (.str "or" :: grpD e :: [grpD f])])) := ⟨co.im, co.cl, co.dp, co.nr, co.p0, Int.le_trans co.p1 (by simp only [List.length_cons, List.length_nil]; decide)⟩
        refine ⟨⟨4, by decide, c2⟩, fun l p => ?_⟩
        rw [← fany l p]
        show fitsD 5 (.tuple (.str "or" :: grpD a :: [grpD b, grpD c, grpD d, .tuple (.str "or" :: grpD e :: [grpD f])])) l p = _
        rw [(parts_five c2.ne (by decide)).2 l p, fitsD_or]
        have up : ∀ z ∈ [a, b, c, d, e, f], fitsD 3 (grpD z) l p = fitsD 2 (grpD z) l p := fun z hz => (parts_up 2 (grpD z) (hg z hz).c.ne).2 l p
        simp only [List.any_cons, List.any_nil, Bool.or_false, List.map_cons, List.map_nil, fitsD_or]
        rw [up a (by simp), up b (by simp), up c (by simp), up d (by simp)]
theorem grpTo_pos {x : Int} {m : List (List Int)} (hm : ShM m) (hx : ∃ r ∈ m, x ∈ r) : 1 ≤ (grpTo x m 6).length := by
  obtain ⟨r, hr, hxr⟩ := hx
  obtain ⟨l, hl, el⟩ := List.mem_iff_getElem.mp hr
  obtain ⟨p, hp, ep⟩ := List.mem_iff_getElem.mp hxr
  have h4 := hm.four r hr
  have h6 := hm.six
  have hmem : (p : Int) ∈ plansOf x (m.getD l []) := by
    rw [plansOf_mem]
    refine ⟨by omega, by omega, ?_⟩
    rw [List.getD_eq_getElem?_getD, List.getD_eq_getElem?_getD, List.getElem?_eq_getElem hl, el]
    simp only [Option.getD_some, Int.toNat_natCast]
    rw [List.getElem?_eq_getElem hp, ep]
    rfl
  obtain ⟨e, he, _⟩ := (grpI x m 6).cv l (by omega) (List.ne_nil_of_mem hmem)
  exact List.length_pos_of_mem he
theorem condFor_cnd {x : Int} {m : List (List Int)} (hm : ShM m) (hx : ∃ r ∈ m, x ∈ r) : CndX (fun l p => decide (0 ≤ l) && decide (l ≤ 5) && (decide (0 ≤ p) && decide (p ≤ 3)) && decide ((m.getD l.toNat []).getD p.toNat 0 = x)) (condFor m x) := by
  have hI := grpI x m 6
  have hne := grpTo_pos hm hx
  have c := anyOf_cnd (x := x) (m := m) (grpTo x m 6) hne (grpTo_len x m 6) fun e he => grpG hm he
  refine ⟨c.k, fun l p => ?_⟩
  rw [show fitsD 5 (condFor m x) l p = _ from c.f l p]
  apply Bool.eq_iff_iff.mpr
  simp only [List.any_eq_true, Bool.and_eq_true, decide_eq_true_eq, List.contains_iff_mem]
  constructor
  · rintro ⟨e, he, h1, h2⟩
    obtain ⟨_, ⟨l0, h3, h4⟩, h5⟩ := hI.ne e he
    rw [h5, List.mem_map] at h1
    obtain ⟨k, hk, rfl⟩ := h1
    rw [List.mem_filter, List.mem_range] at hk
    have h6 := of_decide_eq_true hk.2
    rw [← h6, plansOf_mem] at h2
    refine ⟨⟨⟨by omega, by omega⟩, h2.1, h2.2.1⟩, ?_⟩
    simpa using h2.2.2
  · rintro ⟨⟨⟨h1, h2⟩, h3, h4⟩, h5⟩
    have hmem : p ∈ plansOf x (m.getD l.toNat []) := plansOf_mem.mpr ⟨h3, h4, h5⟩
    obtain ⟨e, he, hee⟩ := hI.cv l.toNat (by omega) (List.ne_nil_of_mem hmem)
    refine ⟨e, he, ?_, by rw [hee]; exact hmem⟩
    rw [(hI.ne e he).2.2, List.mem_map]
    refine ⟨l.toNat, List.mem_filter.mpr ⟨List.mem_range.mpr (by omega), decide_eq_true hee.symm⟩, by omega⟩
def spCondFor (K : PySem.W.Frag) : Sp := fun vs H Q _ => ∃ (v : V) (m : List (List Int)) (x : Int), vs = [v, .int x] ∧ Dp K H v (sharesD m) ∧ ShM m ∧ (∃ r ∈ m, x ∈ r) ∧ ∀ u H', Same H H' → Dp K H' u (condFor m x) → Q u H'
theorem plansOf_map (x : Int) (r : List Int) : ((List.range 4).filter fun p => decide (r.getD p 0 = x)).map (fun (p : Nat) => V.int (p : Int)) = (plansOf x r).map V.int := by
  unfold plansOf
  rw [List.map_map]
  rfl
theorem grp_immAll (g : List (List Int × List Int)) : immAll (g.map grpD) = true := immAll_mem fun d hd => by
  obtain ⟨e, _, rfl⟩ := List.mem_map.mp hd
  simp only [grpD, intsD, imm, immAll, imm_ints, Bool.and_self]
theorem intsD_mut {K : PySem.W.Frag} {H : Hp} {D : Addr} {o : HO} {kvs : List (List Key × V)} (hD : H D = some (.dT kvs)) {v : V} {ns : List Int} (h : Dp K H v (intsD ns)) : Dp K (upd H D o) v (intsD ns) :=
  dp_tups (tups_upd hD True.intro) (by simp only [intsD, imm, imm_ints]) h
def joinedL (m : List (List Int)) (vals : List Int) : List PyData := vals.map fun x => .tuple [condFor m x, .int x]
/-- the shares above 0, rising -/
structure ValsOf (m : List (List Int)) (vals : List Int) : Prop where
  up : vals.Pairwise (· < ·)
  mem : ∀ x, x ∈ vals ↔ 0 < x ∧ ∃ r ∈ m, x ∈ r
def spJoined (K : PySem.W.Frag) : Sp := fun vs H Q E => ∃ (v : V) (d : PyData), vs = [v] ∧ Dp K H v d ∧ (∀ m, d = sharesD m → ShM m → ∀ (vals : List Int) (u : V) (H' : Hp), Same H H' → ValsOf m vals → Dp K H' u (.tuple (joinedL m vals)) → Q u H') ∧
  (isShares d = false → ∀ H', Same H H' → E (.ref (He.ga K "BadRules")) none H')
theorem CndX.cond {f : Int → Int → Bool} {d : PyData} (c : CndX f d) : isCond d = true := by
  obtain ⟨k, hk, g⟩ := c.k
  have e := (parts_five g.ne (by omega)).1
  have h0 := g.p0
  have h1 := g.p1
  simp only [isCond, e, Bool.and_eq_true, decide_eq_true_eq]
  exact ⟨h0, h1⟩
theorem CndX.gd {f : Int → Int → Bool} {d : PyData} (c : CndX f d) : Gd 50 d := by
  obtain ⟨k, hk, g⟩ := c.k
  exact ⟨g.cl, by have := g.dp; omega, g.nr⟩
theorem CndX.imm {f : Int → Int → Bool} {d : PyData} (c : CndX f d) : imm d = true := by
  obtain ⟨k, hk, g⟩ := c.k
  exact g.im
section
variable {m : List (List Int)} {vals : List Int}
theorem ValsOf.at (h : ValsOf m vals) {x : Int} (hx : x ∈ vals) : ∃ r ∈ m, x ∈ r := ((h.mem x).mp hx).2
theorem ValsOf.gd (hm : ShM m) (h : ValsOf m vals) (hl : vals.length ≤ 1000) : Gd 55 (.tuple (joinedL m vals)) := gd_tup (n := 54) (gds_mem fun d hd => by
  obtain ⟨x, hx, rfl⟩ := List.mem_map.mp hd
  exact gd_tup (n := 53) (gds_cons ((condFor_cnd hm (h.at hx)).gd.mono (by decide)) (gds_cons gd_int gds_nil)) (by simp)) (by simpa [joinedL] using hl)
theorem ValsOf.rules (hm : ShM m) (h : ValsOf m vals) (hl : vals.length ≤ 6) : areRules (.tuple (joinedL m vals)) = true := by
  simp only [areRules, joinedL, List.length_map, decide_eq_true hl, Bool.true_and, List.all_map, List.all_eq_true]
  intro x hx
  obtain ⟨r, hr, hxr⟩ := h.at hx
  have := hm.rng r hr x hxr
  simp [Function.comp, isRule, (condFor_cnd hm (h.at hx)).cond, isNum, this]
theorem ValsOf.imm (hm : ShM m) (h : ValsOf m vals) : immAll (joinedL m vals) = true := immAll_mem fun d hd => by
  obtain ⟨x, hx, rfl⟩ := List.mem_map.mp hd
  have := (condFor_cnd hm (h.at hx)).imm
  simp only [RG.imm, immAll, this, Bool.and_self]
theorem share_vals (hm : ShM m) {l p : Int} (l0 : 0 ≤ l) (l1 : l ≤ 5) (p0 : 0 ≤ p) (p1 : p ≤ 3) : ∀ {vals : List Int}, (∀ x ∈ vals, ∃ r ∈ m, x ∈ r) → shareL (joinedL m vals) l p = if (m.getD l.toNat []).getD p.toNat 0 ∈ vals then (m.getD l.toNat []).getD p.toNat 0 else 0
  | [], _ => rfl
  | x :: vals, h => by
    have c := (condFor_cnd hm (h x (by simp))).f l p
    simp only [l0, l1, p0, p1, decide_true, Bool.true_and] at c
    show (if fitsD 5 (condFor m x) l p = true then x else shareL (joinedL m vals) l p) = _
    rw [c, share_vals hm l0 l1 p0 p1 fun y hy => h y (by simp [hy])]
    by_cases e : (m.getD l.toNat []).getD p.toNat 0 = x
    · rw [if_pos (decide_eq_true e), if_pos (by rw [e]; simp), e]
    · rw [if_neg (by simpa using e)]
      have : ((m.getD l.toNat []).getD p.toNat 0 ∈ x :: vals) ↔ (m.getD l.toNat []).getD p.toNat 0 ∈ vals := by
        rw [List.mem_cons]
        exact ⟨fun z => z.resolve_left e, .inr⟩
      simp only [this]
theorem getD_at {α : Type} {l : List α} {i : Nat} {d : α} (h : i < l.length) : l.getD i d = l[i] := by
  rw [List.getD_eq_getElem?_getD, List.getElem?_eq_getElem h]
  rfl
theorem nodup_le : ∀ {vals l : List Int}, vals.Nodup → (∀ x ∈ vals, x ∈ l) → vals.length ≤ l.length
  | [], _, _, _ => Nat.zero_le _
  | x :: vals, l, n, h => by
    rw [List.nodup_cons] at n
    have hx := h x (by simp)
    have := nodup_le (vals := vals) (l := l.erase x) n.2 fun y hy => (List.mem_erase_of_ne (fun (z : y = x) => n.1 (by rw [← z]; exact hy))).mpr (h y (by simp [hy]))
    rw [List.length_erase_of_mem hx] at this
    have := List.length_pos_of_mem hx
    rw [List.length_cons]
    omega
theorem ShM.cell (hm : ShM m) {l p : Nat} (hl : l < 6) (hp : p < 4) : ∃ r ∈ m, (m.getD l []).getD p 0 ∈ r := by
  have h6 := hm.six
  refine ⟨m[l], List.getElem_mem (by omega), ?_⟩
  have h4 := hm.four m[l] (List.getElem_mem (by omega))
  rw [getD_at (show l < m.length by omega), getD_at (show p < m[l].length by omega)]
  exact List.getElem_mem _
theorem ValsOf.share (hm : ShM m) (h : ValsOf m vals) {l p : Nat} (hl : l < 6) (hp : p < 4) : shareL (joinedL m vals) (l : Int) (p : Int) = (m.getD l []).getD p 0 := by
  rw [share_vals hm (by omega) (by omega) (by omega) (by omega) fun x hx => h.at hx]
  simp only [Int.toNat_natCast]
  have hc := hm.cell hl hp
  obtain ⟨r, hr, hxr⟩ := hc
  have hb := hm.rng r hr _ hxr
  by_cases e : 0 < (m.getD l []).getD p 0
  · rw [if_pos ((h.mem _).mpr ⟨e, r, hr, hxr⟩)]
  · have : (m.getD l []).getD p 0 = 0 := by omega
    rw [this]
    split <;> rfl
theorem ValsOf.plain (hm : ShM m) (h : ValsOf m vals) : PyData.list (plainD (joinedL m vals)) = sharesD m := by
  unfold sharesD
  congr 1
  have h6 := hm.six
  apply List.ext_getElem
  · simp [plainD, h6]
  · intro l h1 h2
    have hl : l < 6 := by simpa [plainD] using h1
    have h4 := hm.four m[l] (List.getElem_mem (by omega))
    simp only [plainD, List.getElem_map, List.getElem_range, rowD]
    congr 2
    apply List.ext_getElem
    · simp [plainRow, h4]
    · intro p h3 h5
      have hp : p < 4 := by simpa [plainRow] using h3
      simp only [plainRow, List.getElem_map, List.getElem_range]
      rw [h.share hm hl hp, getD_at (show l < m.length by omega), getD_at (show p < m[l].length by omega)]
theorem ValsOf.len (h : ValsOf m vals) {l : List Int} (hs : ∀ x ∈ vals, x ∈ l) : vals.length ≤ l.length := by
  have nd : vals.Nodup := h.up.imp fun z => by omega
  exact nodup_le nd hs
end
theorem ints_inj : ∀ {a b : List Int}, a.map PyData.int = b.map PyData.int → a = b
  | [], [], _ => rfl
  | [], _ :: _, h => by simp at h
  | _ :: _, [], h => by simp at h
  | x :: a, y :: b, h => by
    rw [List.map_cons, List.map_cons] at h
    injection h with h1 h2
    injection h1 with h1
    rw [h1, ints_inj h2]
theorem rowD_inj : ∀ {a b : List (List Int)}, a.map rowD = b.map rowD → a = b
  | [], [], _ => rfl
  | [], _ :: _, h => by simp at h
  | _ :: _, [], h => by simp at h
  | x :: a, y :: b, h => by
    rw [List.map_cons, List.map_cons] at h
    injection h with h1 h2
    unfold rowD at h1
    injection h1 with h1
    rw [ints_inj h1, rowD_inj h2]
theorem sharesD_inj {a b : List (List Int)} (h : sharesD a = sharesD b) : a = b := by
  unfold sharesD at h
  injection h with h1
  exact rowD_inj h1
theorem eqv_shares (m : List (List Int)) : PyData.eqv (sharesD m) (sharesD m) = true := eqv_listSelf fun d hd => by
  obtain ⟨r, _, rfl⟩ := List.mem_map.mp hd
  exact eqv_intsSelf r
theorem gd_shares {m : List (List Int)} (hm : ShM m) : Gd 64 (sharesD m) := gd_list (n := 63) (gds_mem fun d hd => by
  obtain ⟨r, hr, rfl⟩ := List.mem_map.mp hd
  exact gd_list (n := 62) (gds_mem fun e he => by
    obtain ⟨x, _, rfl⟩ := List.mem_map.mp he
    exact gd_int) (by have := hm.four r hr; simp [this])) (by have := hm.six; simp [this])
theorem ok_is_number (T : Tx K mg) : Ok P w K mg base 1 "is_number" ["thing", "low", "high"] (spIsNum K) := by
  refine Ok.mk' T.G_is_number T.F_is_number (fun _ _ _ _ _ _ us hl => match us, hl with | [_, _, _], _ => rfl) sc_is_number (fun vs H Q E h => ?_) (fun cdv A outer s H vs Q E hr h => ?_)
  · obtain ⟨v, d, lo, hi, rfl, hd, q⟩ := h
    rfl
  · obtain ⟨v, d, lo, hi, rfl, hd, q⟩ := h
    refine ⟨(tRet (tAndV (tCB (rIsi K) (tCons (tVar 0) (tCons (tC (.ty "int")) tNil))) (tAndV (tNotV (tCB (rIsi K) (tCons (tVar 0) (tCons (tC (.ty "bool")) tNil)))) (tChain oLe oLe (tVar 1) (tVar 0) (tVar 2))))), (pss_one (ps_ret (pe_and (pe_callB call_isi (by rfl) T.Z_isinstance (by decide +kernel) (pa_cons (pv 0) (pa_cons (pe_bltn (v := .ty "int") (by rfl) T.Z_int (by decide +kernel) rfl) pa_nil))) (pe_and (pe_not (pe_callB call_isi (by rfl) T.Z_isinstance (by decide +kernel) (pa_cons (pv 0) (pa_cons (pe_bltn (v := .ty "bool") (by rfl) T.Z_bool (by decide +kernel) rfl) pa_nil)))) (pe_one (pe_chain op_le op_le (pv 1) (pv 0) (pv 2))))))), ?_⟩
    walk_at "0"
    walk_at "g"
    refine isi_int hd ?_
    walk_at "g"
    cases d with
    | int i =>
      cases hd
      refine if_t rfl ?_
      walk_at "g"
      refine isi_bool (.int i) ?_
      walk_at "g"
      refine if_b (fun h => ?_) (fun h => ?_)
      · walk_at "g"
        have e : isNum (.int i) lo hi = decide (i ≤ hi) := by
          simp only [isNum, h, Bool.true_and]
        rw [← e]
        exact q
      · have e : isNum (.int i) lo hi = false := by
          simp only [isNum, h, Bool.false_and]
        rw [← e]
        exact q
    | bool b =>
      cases hd
      refine if_t rfl ?_
      walk_at "g"
      refine isi_bool (.bl b) ?_
      walk_at "g"
      exact q
    | _ => exact if_f rfl q
theorem ok_need_user (T : Tx K mg) : Ok P w K mg base 2 "need_user" ["thing"] (spNeedUser K) := by
  refine Ok.mk' T.G_need_user T.F_need_user (fun _ _ _ _ _ _ us hl => match us, hl with | [_], _ => rfl) sc_need_user (fun vs H Q E h => ?_) (fun cdv A outer s H vs Q E hr h => ?_)
  · obtain ⟨v, d, rfl, hd, q1, q2⟩ := h
    rfl
  · obtain ⟨v, d, rfl, hd, q1, q2⟩ := h
    refine ⟨(tSeq (tIfS (tOr (tNot (tB (tCB (rIsi K) (tCons (tVar 0) (tCons (tC (.ty "tuple")) tNil))))) (tOr (tTest (tOp rNe (tCB (cLen K) (tCons (tVar 0) tNil)) (tC (.int 3)))) (tNot (tB (tCall (spIsNum K) [] E (tCons (tOp (rIxT K) (tVar 0) (tC (.int 0))) (tCons (tC (.int 0)) (tCons (tC (.int 1000000000000)) tNil)))))))) (tRz K E "BadUser") tNext)
      (tIfS (tOr (tNot (tB (tCall (spIsNum K) [] E (tCons (tOp (rIxT K) (tVar 0) (tC (.int 1))) (tCons (tC (.int 0)) (tCons (tOp oSub (tC (.int 6)) (tC (.int 1))) tNil)))))) (tNot (tB (tCall (spIsNum K) [] E (tCons (tOp (rIxT K) (tVar 0) (tC (.int 2))) (tCons (tC (.int 0)) (tCons (tOp oSub (tC (.int 4)) (tC (.int 1))) tNil))))))) (tRz K E "BadUser") tNext)), (pss_cons (ps_if (PW.pt (pw_or (pt_not (pt_val (pe_callB call_isi (by rfl) T.Z_isinstance (by decide +kernel) (pa_cons (pv 0) (pa_cons (pe_bltn (v := .ty "tuple") (by rfl) T.Z_tuple (by decide +kernel) rfl) pa_nil))))) (pw_or (pt_cmpR op_ne (pe_callB call_len (by rfl) T.Z_len (by decide +kernel) (pa_cons (pv 0) pa_nil)) pe_int (nomark _)) (pw_or1 (pt_not (pt_val (pe_f (ok_is_number T) hr (pnx (L2N.takes_of rfl rfl rfl rfl)) (pa_cons (pe_ix ix_tup (pv 0) pe_int (fun _ _ => rfl)) (pa_cons pe_int (pa_cons (pe_gi T.I_GREATEST) pa_nil)))))))))) (pss_one (ps_rz T.X_BadUser (L2N.takes_of rfl rfl rfl rfl))) pss_nil)
      (pss_one (ps_if (PW.pt (pw_or (pt_not (pt_val (pe_f (ok_is_number T) hr (pnx (L2N.takes_of rfl rfl rfl rfl)) (pa_cons (pe_ix ix_tup (pv 0) pe_int (fun _ _ => rfl)) (pa_cons pe_int (pa_cons (pe_op op_sub (pe_gi T.I_LANDS) pe_int) pa_nil)))))) (pw_or1 (pt_not (pt_val (pe_f (ok_is_number T) hr (pnx (L2N.takes_of rfl rfl rfl rfl)) (pa_cons (pe_ix ix_tup (pv 0) pe_int (fun _ _ => rfl)) (pa_cons pe_int (pa_cons (pe_op op_sub (pe_gi T.I_PLANS) pe_int) pa_nil))))))))) (pss_one (ps_rz T.X_BadUser (L2N.takes_of rfl rfl rfl rfl))) pss_nil))), ?_⟩
    walk_at "0"
    walk_at "g"
    refine isi_tuple hd ?_
    walk_at "g"
    by_cases ht : isTupD d = true
    · obtain ⟨ds, rfl⟩ : ∃ ds, d = .tuple ds := by
        cases d <;> first | exact ⟨_, rfl⟩ | cases ht
      refine if_f rfl ?_
      walk_at "g"
      refine w_lenD hd ?_
      walk_at "g"
      refine if_b (fun h => ?_) (fun h => ?_)
      · refine if_t rfl ?_
        walk_at "g"
        refine q2 (isUser_len fun z => ?_)
        rw [z] at h
        simp at h
      · have hl : ds.length = 3 := by
          simp at h
          omega
        match ds, hl with
        | [a, b, c], _ =>
        walk_at "g"
        refine w_ixD0 hd fun u0 h0 => ?_
        walk_at "g"
        refine ⟨_, _, _, _, rfl, h0, ?_⟩
        walk_at "g"
        cases e0 : isNum a 0 1000000000000
        · walk_at "g"
          refine q2 ?_
          simp only [isUser, e0, Bool.false_and]
        · walk_at "g"
          refine w_ixD1 hd fun u1 h1 => ?_
          walk_at "g"
          refine ⟨_, _, _, _, rfl, h1, ?_⟩
          walk_at "g"
          cases e1 : isNum b 0 (6 - 1)
          · walk_at "g"
            refine q2 ?_
            have e1 : isNum b 0 5 = false := e1
            simp only [isUser, e0, e1, Bool.false_and, Bool.and_false]
          · have e1 : isNum b 0 5 = true := e1
            walk_at "g"
            refine w_ixD2 hd fun u2 h2 => ?_
            walk_at "g"
            refine ⟨_, _, _, _, rfl, h2, ?_⟩
            walk_at "g"
            cases e2 : isNum c 0 (4 - 1)
            · walk_at "g"
              refine q2 ?_
              have e2 : isNum c 0 3 = false := e2
              simp only [isUser, e0, e1, e2, Bool.and_false]
            · walk_at "g"
              refine q1 ?_
              have e2 : isNum c 0 3 = true := e2
              simp only [isUser, e0, e1, e2, Bool.and_true]
    · have ht : isTupD d = false := by simpa using ht
      rw [ht]
      walk_at "g"
      refine q2 ?_
      cases d <;> first | rfl | cases ht
theorem ok_is_row (T : Tx K mg) : Ok P w K mg base 2 "is_row" ["thing", "most"] (spIsRow K) := by
  refine Ok.mk' T.G_is_row T.F_is_row (fun _ _ _ _ _ _ us hl => match us, hl with | [_, _], _ => rfl) sc_is_row (fun vs H Q E h => ?_) (fun cdv A outer s H vs Q E hr h => ?_)
  · obtain ⟨v, d, m, rfl, hd, sh, q⟩ := h
    rfl
  · obtain ⟨v, d, m, rfl, hd, sh, q⟩ := h
    refine ⟨(tSeq (tIfS (tOr (tNot (tB (tCB (rIsi K) (tCons (tVar 0) (tCons (tC (.ty "tuple")) tNil))))) (tOr (tTest (tOp (rEqD K) (tVar 0) (tTup tNil))) (tNot (tB (tCB (rAll K) (tCons (tLc (iTup K (tVar 0)) (gName 2) tYes (tCall (spIsNum K) [] E0 (tCons (tVar 2) (tCons (tC (.int 0)) (tCons (tOp oSub (tVar 1) (tC (.int 1))) tNil)))) [2]) tNil)))))) (tRet (tC (.bl false))) tNext)
      (tRet (tCB (rAll K) (tCons (tLc (RZ.iZipA K (tCons (tVar 0) (tCons (tSl (rSlA K) (tVar 0) (tPart (tC (.int 1))) tNoPart) tNil))) (gTup K 2 (gCons (gName 2) (gCons (gName 3) gNil))) tYes (tOp oLt (tVar 2) (tVar 3)) [2, 3]) tNil)))), (pss_cons (ps_if (PW.pt (pw_or (pt_not (pt_val (pe_callB call_isi (by rfl) T.Z_isinstance (by decide +kernel) (pa_cons (pv 0) (pa_cons (pe_bltn (v := .ty "tuple") (by rfl) T.Z_tuple (by decide +kernel) rfl) pa_nil))))) (pw_or (pt_cmpR (op_eqD hr.units) (pv 0) (pe_tup pa_nil) (nomark _)) (pw_or1 (pt_not (pt_val (pe_callB (cr_all rfl) (by rfl) T.Z_all (by decide +kernel) (pa_cons (pe_lc (own := [("one", 2)]) rfl sc_is_row.nd (pi_tup (pv 0)) (blkOk_by (own := [("one", 2)]) (N := ["thing", "most", "one", "other"]) (sc := defScope s_is_row) (by decide +kernel)) (fun _ _ _ _ _ => (pg_name (i := 2) sc_is_row.nd rfl (by first | exact Or.inl rfl | exact Or.inr rfl))) (fun _ _ _ _ _ => pts_nil) (fun _ _ _ _ _ => (pe_f (ok_is_number T) hr pn0 (pa_cons (pv 2) (pa_cons pe_int (pa_cons (pe_op op_sub (pv 1) pe_int) pa_nil)))))) pa_nil)))))))) (pss_one (ps_ret pe_bl)) pss_nil)
      (pss_one (ps_ret (pe_callB (cr_all rfl) (by rfl) T.Z_all (by decide +kernel) (pa_cons (pe_lc (own := [("one", 2), ("other", 3)]) rfl sc_is_row.nd (RZ.pi_zipA (by rfl) T.Z_zip (pa_cons (pv 0) (pa_cons (pe_slice sl_tupA (pv 0) (po_some pe_int) po_none) pa_nil))) (blkOk_by (own := [("one", 2), ("other", 3)]) (N := ["thing", "most", "one", "other"]) (sc := defScope s_is_row) (by decide +kernel)) (fun _ _ _ _ _ => (pg_tup (by rfl) (pgs_cons (pg_name (i := 2) sc_is_row.nd rfl (by first | exact Or.inl rfl | exact Or.inr rfl)) (pgs_cons (pg_name (i := 3) sc_is_row.nd rfl (by first | exact Or.inl rfl | exact Or.inr rfl)) pgs_nil)))) (fun _ _ _ _ _ => pts_nil) (fun _ _ _ _ _ => (pe_cmpR op_lt (pv 2) (pv 3) (nomark _)))) pa_nil))))), ?_⟩
    walk_at "0"
    walk_at "g"
    refine isi_tuple hd ?_
    walk_at "g"
    by_cases ht : isTupD d = true
    · obtain ⟨ds, rfl⟩ := is_tup ht
      refine if_f rfl ?_
      walk_at "g"
      refine ⟨Nat.zero_le _, fun p np => ?_⟩
      have s1 : Same H (upd H p (.tup [])) := Same.new np
      refine w_eqD (dp_s s1 hd) (.tup (tupOf upd_same) .nil) (okD_sh sh) (by rfl) ?_
      walk_at "g"
      cases ds with
      | nil =>
        refine if_t rfl ?_
        walk_at "g"
        exact q _ s1
      | cons d0 ds =>
        refine if_f rfl ?_
        walk_at "g"
        generalize upd H p (.tup []) = H1 at *
        have hd1 := dp_s s1 hd
        obtain ⟨a, xs, rfl, hx, hxs⟩ := dp_tuple hd1
        walk_at "g"
        refine ⟨⟨xs, hx⟩, ?_⟩
        have hxl : xs.length = (d0 :: ds).length := dpAll_len hxs
        have hsm := okD_len sh
        refine lc_pure walk_tup (by omega) ((d0 :: ds).map fun y => [V.bl (isNum y 0 (m - 1))]) (by simp [hxl]) (fun H' s => tup_s s hx) ?_ ?_
        · rintro D i acc x H' H'' hD hi hacc hH' iv ⟨rfl, hxi⟩
          walk_at "g"
          refine ⟨rfl, ?_⟩
          walk_at "g"
          obtain ⟨e, he, hde⟩ := dpAll_getV hxs hxi
          refine ⟨_, _, _, _, rfl, dp_s iv.1 hde, ?_⟩
          refine lcp_nx hD (by omega) hacc hH' iv (Same.refl _) ?_
          rw [List.getElem?_map, he]
          rfl
        · intro D H2 hD s2 hH2
          rw [flat_one (fun y => V.bl (isNum y 0 (m - 1)))] at hH2
          walk_at "g"
          refine w_all (bs := (d0 :: ds).map fun y => isNum y 0 (m - 1)) (lstOf (by rw [hH2, List.map_map]; rfl)) ?_
          have eall : ((d0 :: ds).map fun y => isNum y 0 (m - 1)).all id = (d0 :: ds).all fun y => isNum y 0 (m - 1) := by
            rw [List.all_map]
            rfl
          rw [eall]
          walk_at "g"
          cases ea : (d0 :: ds).all fun y => isNum y 0 (m - 1) with
          | false =>
            refine if_t rfl ?_
            walk_at "g"
            have e : isRow (.tuple (d0 :: ds)) m = false := by
              simp only [isRow, ea, Bool.false_and]
            rw [← e]
            exact q _ (s1.trans s2)
          | true =>
            refine if_f rfl ?_
            walk_at "g"
            obtain ⟨ns, ens⟩ := all_nums ea
            have hx2 := tup_s s2 hx
            have exs : xs = ns.map V.int := by
              have h1 := dps_s s2 hxs
              rw [ens] at h1
              exact dpAll_intsV h1
            cases ns with
            | nil => cases ens
            | cons n0 ns =>
            subst exs
            walk_at "g"
            refine w_sl1 hx2 fun p2 np2 => ?_
            walk_at "g"
            have s3 : Same H2 (upd H2 p2 (.tup (ns.map V.int))) := Same.new np2
            generalize hH3 : upd H2 p2 (.tup (ns.map V.int)) = H3 at *
            have hp2 : H3 p2 = some (.tup (ns.map V.int)) := by
              rw [← hH3]
              exact upd_same
            refine ⟨a, p2, _, _, rfl, .inr ⟨tup_s s3 hx2, tupOf hp2, ?_⟩⟩
            have hln : ns.length = ds.length := by
              have := congrArg List.length ens
              simp at this
              omega
            refine lc_pure (walk_zipT (m := ns.length) (by simp)) (by simp at hsm; omega) ((upB (n0 :: ns)).map fun b => [V.bl b]) (by simp [upB_len]) (fun H' s => ⟨tup_s s (tup_s s3 hx2), tupOf (s _ _ hp2)⟩) ?_ ?_
            · rintro D' i acc x H' H'' hD' hi hacc hH' iv ⟨T', x1, x2, rfl, nT, rfl, e1, e2⟩
              walk_at "g"
              refine w_gtup (tupOf upd_same) rfl ?_
              walk_at "g"
              refine ⟨rfl, ?_⟩
              walk_at "g"
              dsimp only at e1 e2
              rw [List.getElem?_map] at e1 e2
              obtain ⟨y1, f1, rfl⟩ := Option.map_eq_some_iff.mp e1
              obtain ⟨y2, f2, rfl⟩ := Option.map_eq_some_iff.mp e2
              walk_at "g"
              refine lcp_nx hD' (by simp at hsm; omega) hacc hH' iv (Same.new nT) ?_
              rw [List.getElem?_map, upB_get f1 (by simpa using f2)]
              rfl
            · intro D' H4 hD' s4 hH4
              rw [flat_one V.bl] at hH4
              walk_at "g"
              refine w_all (lstOf hH4) ?_
              have e : isRow (.tuple (d0 :: ds)) m = (upB (n0 :: ns)).all id := by
                simp only [isRow, ea, Bool.true_and]
                rw [ens, rising_up]
              rw [← e]
              exact q _ (((s1.trans s2).trans s3).trans s4)
    · have ht := not_tup ht
      rw [ht]
      walk_at "g"
      rw [← isRow_no (m := m) ht]
      exact q _ (Same.refl _)
theorem okr_parts_of (T : Tx K mg) : ∀ n : Nat, Ok P w K mg base (3 + n) "parts_of" ["thing", "deep"] (spPartsR K n) := by
  intro n
  induction n with
  | zero =>
    refine (Ok.bot T.G_parts_of T.F_parts_of (fun _ _ _ _ _ _ us hl => match us, hl with | [_, _], _ => rfl)).imp (fun vs H Q E h => ?_)
    obtain ⟨v, d, k, rfl, hk, hd, sh, q⟩ := h
    omega
  | succ n ih =>
  refine Ok.mk' (k := 3 + n) T.G_parts_of T.F_parts_of (fun _ _ _ _ _ _ us hl => match us, hl with | [_, _], _ => rfl) sc_parts_of (fun vs H Q E h => ?_) (fun cdv A outer s H vs Q E hr h => ?_)
  · obtain ⟨v, d, k, rfl, hk, hd, sh, q⟩ := h
    rfl
  · obtain ⟨v, d, k, rfl, hk, hd, sh, q⟩ := h
    refine ⟨(tSeq (tIfS (tOr (tTest (tOp rEq (tVar 1) (tC (.int 0)))) (tOr (tNot (tB (tCB (rIsi K) (tCons (tVar 0) (tCons (tC (.ty "tuple")) tNil))))) (tOr (tTest (tOp oLt (tCB (cLen K) (tCons (tVar 0) tNil)) (tC (.int 2)))) (tNot (tB (tCB (rIsi K) (tCons (tOp (rIxT K) (tVar 0) (tC (.int 0))) (tCons (tC (.ty "str")) tNil)))))))) (tRet (tC (.int 0))) tNext)
      (tSeq (tIfS (tTest (tOp (rIn K false) (tOp (rIxT K) (tVar 0) (tC (.int 0))) (tTup (tCons (tC (.str "land")) (tCons (tC (.str "plan")) tNil))))) (tRet (tCB cInt1 (tCons (tAndV (tOp rEq (tCB (cLen K) (tCons (tVar 0) tNil)) (tC (.int 2))) (tCall (spIsRow K) [] E (tCons (tOp (rIxT K) (tVar 0) (tC (.int 1))) (tCons (tIf (tTest (tOp rEq (tOp (rIxT K) (tVar 0) (tC (.int 0))) (tC (.str "land")))) (tC (.int 6)) (tC (.int 4))) tNil)))) tNil))) tNext)
      (tSeq (tAsg (tOrV (tAndV (tOp (rIn K false) (tOp (rIxT K) (tVar 0) (tC (.int 0))) (tTup (tCons (tC (.str "and")) (tCons (tC (.str "or")) tNil)))) (tChain oLe oLe (tC (.int 3)) (tCB (cLen K) (tCons (tVar 0) tNil)) (tC (.int 6)))) (tAndV (tOp rEq (tOp (rIxT K) (tVar 0) (tC (.int 0))) (tC (.str "not"))) (tOp rEq (tCB (cLen K) (tCons (tVar 0) tNil)) (tC (.int 2))))) (gName 2))
      (tSeq (tAsg (tIf (tB (tVar 2)) (tLc (iTup K (tSl (rSlA K) (tVar 0) (tPart (tC (.int 1))) tNoPart)) (gName 3) tYes (tCall (spPartsR K n) [] E0 (tCons (tVar 3) (tCons (tOp oSub (tVar 1) (tC (.int 1))) tNil))) [3]) (tLst (tCons (tC (.int 0)) tNil))) (gName 4))
      (tRet (tIf (tTest (tOp (rIn K true) (tC (.int 0)) (tVar 4))) (tOp oAdd (tC (.int 1)) (tCB (rSum K) (tCons (tVar 4) tNil))) (tC (.int 0)))))))), (pss_cons (ps_if (PW.pt (pw_or (pt_cmpR op_eq (pv 1) pe_int (nomark _)) (pw_or (pt_not (pt_val (pe_callB call_isi (by rfl) T.Z_isinstance (by decide +kernel) (pa_cons (pv 0) (pa_cons (pe_bltn (v := .ty "tuple") (by rfl) T.Z_tuple (by decide +kernel) rfl) pa_nil))))) (pw_or (pt_cmpR op_lt (pe_callB call_len (by rfl) T.Z_len (by decide +kernel) (pa_cons (pv 0) pa_nil)) pe_int (nomark _)) (pw_or1 (pt_not (pt_val (pe_callB call_isi (by rfl) T.Z_isinstance (by decide +kernel) (pa_cons (pe_ix ix_tup (pv 0) pe_int (fun _ _ => rfl)) (pa_cons (pe_bltn (v := .ty "str") (by rfl) T.Z_str (by decide +kernel) rfl) pa_nil)))))))))) (pss_one (ps_ret pe_int)) pss_nil)
      (pss_cons (ps_if (pt_cmpR op_in_seq (pe_ix ix_tup (pv 0) pe_int (fun _ _ => rfl)) (pe_tup (pa_cons pe_str (pa_cons pe_str pa_nil))) (by rfl)) (pss_one (ps_ret (pe_callTy call_int1 (by rfl) T.Z_int (by decide +kernel) (pa_cons (pe_and (pe_cmpR op_eq (pe_callB call_len (by rfl) T.Z_len (by decide +kernel) (pa_cons (pv 0) pa_nil)) pe_int (nomark _)) (pe_one (pe_f (ok_is_row T) hr (pnx (L2N.takes_of rfl rfl rfl rfl)) (pa_cons (pe_ix ix_tup (pv 0) pe_int (fun _ _ => rfl)) (pa_cons (pe_ifExp (pt_cmpR op_eq (pe_ix ix_tup (pv 0) pe_int (fun _ _ => rfl)) pe_str (nomark _)) (pe_gi T.I_LANDS) (pe_gi T.I_PLANS)) pa_nil))))) pa_nil)))) pss_nil)
      (pss_cons (ps_set (i := 2) sc_parts_of.nd rfl (by first | exact Or.inl rfl | exact Or.inr rfl) (pe_or (pe_and (pe_cmpR op_in_seq (pe_ix ix_tup (pv 0) pe_int (fun _ _ => rfl)) (pe_tup (pa_cons pe_str (pa_cons pe_str pa_nil))) (by rfl)) (pe_one (pe_chain op_le op_le pe_int (pe_callB call_len (by rfl) T.Z_len (by decide +kernel) (pa_cons (pv 0) pa_nil)) pe_int))) (pe_one (pe_and (pe_cmpR op_eq (pe_ix ix_tup (pv 0) pe_int (fun _ _ => rfl)) pe_str (nomark _)) (pe_one (pe_cmpR op_eq (pe_callB call_len (by rfl) T.Z_len (by decide +kernel) (pa_cons (pv 0) pa_nil)) pe_int (nomark _)))))))
      (pss_cons (ps_set (i := 4) sc_parts_of.nd rfl (by first | exact Or.inl rfl | exact Or.inr rfl) (pe_ifExp (pt_val (pv 2)) (pe_lc (own := [("part", 3)]) rfl sc_parts_of.nd (pi_tup (pe_slice sl_tupA (pv 0) (po_some pe_int) po_none)) (blkOk_by (own := [("part", 3)]) (N := ["thing", "deep", "good", "part", "rows"]) (sc := defScope s_parts_of) (by decide +kernel)) (fun _ _ _ _ _ => (pg_name (i := 3) sc_parts_of.nd rfl (by first | exact Or.inl rfl | exact Or.inr rfl))) (fun _ _ _ _ _ => pts_nil) (fun _ _ _ _ _ => (pe_f ih hr pn0 (pa_cons (pv 3) (pa_cons (pe_op op_sub (pv 1) pe_int) pa_nil))))) (pe_lst (pa_cons pe_int pa_nil))))
      (pss_one (ps_ret (pe_ifExp (pt_cmpR op_notIn_seq pe_int (pv 4) (by rfl)) (pe_op op_add pe_int (pe_callB (cr_sum rfl) (by rfl) T.Z_sum (by decide +kernel) (pa_cons (pv 4) pa_nil))) pe_int))))))), ?_⟩
    walk_at "0"
    walk_at "g"
    refine if_b (fun h => ?_) (fun h => ?_)
    · walk_at "g"
      have hk0 : k = 0 := by
        simp at h
        exact h
      subst hk0
      exact q _ (Same.refl _)
    obtain ⟨j, rfl⟩ : ∃ j, k = j + 1 := by
      cases k with
      | zero => simp at h
      | succ j => exact ⟨j, rfl⟩
    walk_at "g"
    refine isi_tuple hd ?_
    walk_at "g"
    cases ht : isTupD d with
    | false =>
      walk_at "g"
      rw [← partsOf_no (n := j + 1) ht]
      exact q _ (Same.refl _)
    | true =>
    obtain ⟨ds, rfl⟩ := is_tup ht
    walk_at "g"
    walk_at "g"
    refine w_lenD hd ?_
    walk_at "g"
    refine if_b (fun h2 => ?_) (fun h2 => ?_)
    · walk_at "g"
      rw [← partsOf_short (n := j + 1) (ds := ds) (by simp at h2; omega)]
      exact q _ (Same.refl _)
    have h2 : 2 ≤ ds.length := by
      simp at h2
      omega
    match ds, h2 with
    | x :: a :: r, _ =>
    walk_at "g"
    refine w_ixD0 hd fun u0 h0 => ?_
    walk_at "g"
    refine isi_str h0 ?_
    walk_at "g"
    cases es : isStrD x with
    | false =>
      refine if_t rfl ?_
      walk_at "g"
      rw [← partsOf_word (n := j + 1) (a := a) (r := r) es]
      exact q _ (Same.refl _)
    | true =>
    obtain ⟨z, rfl⟩ := is_str es
    refine if_f rfl ?_
    walk_at "g"
    refine w_ixD0 hd fun u1 h1 => ?_
    cases dp_str h1
    walk_at "g"
    refine ⟨sz (by simp), fun p np => ?_⟩
    have s1 : Same H (upd H p (.tup [.str "land", .str "plan"])) := Same.new np
    refine w_inT (tupOf upd_same) rfl rfl ?_
    rw [inV_two]
    generalize upd H p (.tup [.str "land", .str "plan"]) = H1 at *
    have hd1 := dp_s s1 hd
    have sha : okD a = true := okD_mem sh (by simp)
    walk_at "g"
    refine if_b (fun hw => ?_) (fun hw => ?_)
    · walk_at "g"
      refine w_lenD hd1 ?_
      walk_at "g"
      have er : decide (((PyData.str z :: a :: r).length : Int) = 2) = r.isEmpty := by
        cases r with
        | nil => rfl
        | cons y t => simp only [List.length_cons, List.isEmpty_cons, decide_eq_false_iff_not]; omega
      rw [er]
      refine if_b (fun hr0 => ?_) (fun hr0 => ?_)
      · walk_at "g"
        refine w_ixD1 hd1 fun u2 ha2 => ?_
        walk_at "g"
        refine w_ixD0 hd1 fun u3 h3 => ?_
        cases dp_str h3
        walk_at "g"
        by_cases hl : z = "land"
        · subst hl
          refine if_t (decide_eq_true rfl) ?_
          walk_at "g"
          refine ⟨_, a, 6, rfl, ha2, sha, fun H2 s2 => ?_⟩
          refine w_intB ?_
          rw [partsOf_land, hr0] at q
          exact q _ (s1.trans s2)
        · refine if_f (decide_eq_false hl) ?_
          walk_at "g"
          refine ⟨_, a, 4, rfl, ha2, sha, fun H2 s2 => ?_⟩
          refine w_intB ?_
          have hpl : z = "plan" := by
            simpa [hl] using hw
          subst hpl
          rw [partsOf_plan, hr0] at q
          exact q _ (s1.trans s2)
      · walk_at "g"
        have e : partsOf (j + 1) (.tuple (.str z :: a :: r)) = 0 := by
          by_cases hl : z = "land"
          · subst hl
            rw [partsOf_land, hr0]
            rfl
          · have hpl : z = "plan" := by
              simpa [hl] using hw
            subst hpl
            rw [partsOf_plan, hr0]
            rfl
        rw [e] at q
        exact q _ s1
    · have nl : ¬ z = "land" := fun e => by simp [e] at hw
      have npn : ¬ z = "plan" := fun e => by simp [e] at hw
      walk_at "s"
      refine evb_use (b := ((decide (z = "and") || decide (z = "or")) && (decide (1 ≤ r.length) && decide (r.length ≤ 4))) || (decide (z = "not") && r.isEmpty)) (evb_or (evb_and ?_ fun _ H2 s2 => ?_) fun _ H2 s2 => (evb_and ?_ fun _ H3 s3 => ?_)) (fun H2 s2 => ?_)
      · intro Q' q'
        walk_at "g"
        refine w_ixD0 hd1 fun u2 hz2 => ?_
        cases dp_str hz2
        walk_at "g"
        refine ⟨sz (by simp), fun p2 np2 => ?_⟩
        refine w_inT (tupOf upd_same) rfl rfl ?_
        rw [inV_two]
        exact q' _ (Same.new np2)
      · intro Q' q'
        walk_at "g"
        refine w_lenD (dp_s s2 hd1) ?_
        walk_at "g"
        simp only [List.length_cons]
        have e1 : decide ((3 : Int) ≤ ((r.length + 1 + 1 : Nat) : Int)) = decide (1 ≤ r.length) := by
          rw [decide_eq_decide]
          omega
        have e2 : decide (((r.length + 1 + 1 : Nat) : Int) ≤ 6) = decide (r.length ≤ 4) := by
          rw [decide_eq_decide]
          omega
        rw [e1]
        refine if_b (fun h3 => ?_) (fun h3 => ?_)
        · walk_at "g"
          rw [h3, Bool.true_and] at q'
          rw [e2]
          exact q' _ (Same.refl _)
        · rw [h3, Bool.false_and] at q'
          exact q' _ (Same.refl _)
      · intro Q' q'
        walk_at "g"
        refine w_ixD0 (dp_s s2 hd1) fun u2 hz2 => ?_
        cases dp_str hz2
        walk_at "g"
        exact q' _ (Same.refl _)
      · intro Q' q'
        walk_at "g"
        refine w_lenD (dp_s s3 (dp_s s2 hd1)) ?_
        walk_at "g"
        have er : decide (((PyData.str z :: a :: r).length : Int) = 2) = r.isEmpty := by
          cases r with
          | nil => rfl
          | cons y t => simp only [List.length_cons, List.isEmpty_cons, decide_eq_false_iff_not]; omega
        rw [er]
        exact q' _ (Same.refl _)
      rw [partsOf_more nl npn] at q
      have hd2 := dp_s s2 hd1
      walk_at "g"
      cases hG : ((decide (z = "and") || decide (z = "or")) && (decide (1 ≤ r.length) && decide (r.length ≤ 4))) || (decide (z = "not") && r.isEmpty) with
      | false =>
        rw [hG] at q
        walk_at "g"
        refine ⟨sz (by simp), fun p3 np3 => ?_⟩
        walk_at "g"
        refine w_ninL (xs := [.int 0]) (lstOf upd_same) rfl rfl ?_
        walk_at "g"
        exact q _ ((s1.trans s2).trans (Same.new np3))
      | true =>
        rw [hG] at q
        walk_at "g"
        obtain ⟨ad, xs, rfl, hx, hxs⟩ := dp_tuple hd2
        cases hxs with
        | cons hx0 hxs =>
        refine w_sl1 hx fun p3 np3 => ?_
        rename_i v0 xs
        have s3 : Same H2 (upd H2 p3 (.tup xs)) := Same.new np3
        have hp3 : (upd H2 p3 (.tup xs)) p3 = some (.tup xs) := upd_same
        generalize upd H2 p3 (.tup xs) = H3 at *
        walk_at "g"
        refine ⟨⟨xs, tupOf hp3⟩, ?_⟩
        have hxs3 := dps_s s3 hxs
        have hln : xs.length = (a :: r).length := dpAll_len hxs3
        have hsm := okD_len sh
        simp only [List.length_cons] at hsm hln
        refine lc_pure walk_tup (by omega) ((a :: r).map fun y => [V.int (partsOf j y)]) (by simp [hln]) (fun H' s => tupOf (s _ _ hp3)) ?_ ?_
        · rintro D i acc x H' H'' hD hi hacc hH' iv ⟨rfl, hxi⟩
          walk_at "g"
          refine ⟨rfl, ?_⟩
          walk_at "g"
          obtain ⟨e, he, hde⟩ := dpAll_getV hxs3 hxi
          have em : e ∈ (PyData.str z :: a :: r) := List.mem_cons_of_mem _ (List.mem_of_getElem? he)
          refine ⟨_, e, j, by simp, by omega, dp_s iv.1 hde, okD_mem sh em, fun H4 s4 => ?_⟩
          refine lcp_nx hD (by omega) hacc hH' iv s4 ?_
          rw [List.getElem?_map, he]
          rfl
        · intro D H4 hD s4 hH4
          rw [flat_one (fun y => V.int (partsOf j y))] at hH4
          have hH4 : H4 D = some (.lst (((a :: r).map (partsOf j)).map V.int)) := by
            rw [hH4, List.map_map]
            rfl
          have sT := ((s1.trans s2).trans s3).trans s4
          generalize hrs : (a :: r).map (partsOf j) = rs at *
          walk_at "g"
          refine w_ninL (lstOf hH4) rfl (flat_ints _) ?_
          rw [inV_ints]
          walk_at "g"
          cases h0 : rs.contains 0 with
          | true =>
            rw [h0] at q
            walk_at "g"
            exact q _ sT
          | false =>
            rw [h0] at q
            walk_at "g"
            refine w_sum (lstOf hH4) ?_
            walk_at "g"
            exact q _ sT
theorem ok_parts_of (T : Tx K mg) : Ok P w K mg base 9 "parts_of" ["thing", "deep"] (spPartsR K 6) := okr_parts_of T 6
theorem ok_is_condition (T : Tx K mg) : Ok P w K mg base 10 "is_condition" ["thing"] (spIsCond K) := by
  refine Ok.mk' T.G_is_condition T.F_is_condition (fun _ _ _ _ _ _ us hl => match us, hl with | [_], _ => rfl) sc_is_condition (fun vs H Q E h => ?_) (fun cdv A outer s H vs Q E hr h => ?_)
  · obtain ⟨v, d, rfl, hd, sh, q⟩ := h
    rfl
  · obtain ⟨v, d, rfl, hd, sh, q⟩ := h
    refine ⟨(tRet (tChain oLe oLe (tC (.int 1)) (tCall (spPartsR K 6) [] E (tCons (tVar 0) (tCons (tC (.int 5)) tNil))) (tC (.int 40)))), (pss_one (ps_ret (pe_chain op_le op_le pe_int (pe_f (ok_parts_of T) hr (pnx (L2N.takes_of rfl rfl rfl rfl)) (pa_cons (pv 0) (pa_cons (pe_gi T.I_MOST_DEEP) pa_nil))) (pe_gi T.I_MOST_PARTS)))), ?_⟩
    walk_at "0"
    walk_at "g"
    refine ⟨v, d, 5, rfl, by decide, hd, sh, fun H1 s1 => ?_⟩
    walk_at "g"
    refine if_b (fun h => ?_) (fun h => ?_)
    · walk_at "g"
      have e : isCond d = decide (partsOf 5 d ≤ 40) := by
        simp only [isCond, h, Bool.true_and]
      rw [← e]
      exact q _ s1
    · have e : isCond d = false := by
        simp only [isCond, h, Bool.false_and]
      rw [← e]
      exact q _ s1
theorem okr_fits (T : Tx K mg) : ∀ n : Nat, Ok P w K mg base (1 + n) "fits" ["condition", "land", "plan"] (spFitsR K n) := by
  intro n
  induction n with
  | zero =>
    refine (Ok.bot T.G_fits T.F_fits (fun _ _ _ _ _ _ us hl => match us, hl with | [_, _, _], _ => rfl)).imp (fun vs H Q E h => ?_)
    obtain ⟨v, d, l, p, k, rfl, hk, hd, sh, hp, q⟩ := h
    omega
  | succ n ih =>
  refine Ok.mk' (k := 1 + n) T.G_fits T.F_fits (fun _ _ _ _ _ _ us hl => match us, hl with | [_, _, _], _ => rfl) sc_fits (fun vs H Q E h => ?_) (fun cdv A outer s H vs Q E hr h => ?_)
  · obtain ⟨v, d, l, p, k, rfl, hk, hd, sh, hp, q⟩ := h
    rfl
  · obtain ⟨v, d, l, p, k, rfl, hk, hd, sh, hp, q⟩ := h
    refine ⟨(tSeq (tIfS (tTest (tOp rEq (tOp (rIxT K) (tVar 0) (tC (.int 0))) (tC (.str "land")))) (tRet (tOp (rIn K false) (tVar 1) (tOp (rIxT K) (tVar 0) (tC (.int 1))))) tNext)
      (tSeq (tIfS (tTest (tOp rEq (tOp (rIxT K) (tVar 0) (tC (.int 0))) (tC (.str "plan")))) (tRet (tOp (rIn K false) (tVar 2) (tOp (rIxT K) (tVar 0) (tC (.int 1))))) tNext)
      (tSeq (tAsg (tLc (iTup K (tSl (rSlA K) (tVar 0) (tPart (tC (.int 1))) tNoPart)) (gName 3) tYes (tCall (spFitsR K n) [] E0 (tCons (tVar 3) (tCons (tVar 1) (tCons (tVar 2) tNil)))) [3]) (gName 4))
      (tSeq (tIfS (tTest (tOp rEq (tOp (rIxT K) (tVar 0) (tC (.int 0))) (tC (.str "not")))) (tRet (tNotV (tOp (rIxL K) (tVar 4) (tC (.int 0))))) tNext)
      (tRet (tIf (tTest (tOp rEq (tOp (rIxT K) (tVar 0) (tC (.int 0))) (tC (.str "and")))) (tCB (rAll K) (tCons (tVar 4) tNil)) (tCB (rAny K) (tCons (tVar 4) tNil)))))))), (pss_cons (ps_if (pt_cmpR op_eq (pe_ix ix_tup (pv 0) pe_int (fun _ _ => rfl)) pe_str (nomark _)) (pss_one (ps_ret (pe_cmpR op_in_seq (pv 1) (pe_ix ix_tup (pv 0) pe_int (fun _ _ => rfl)) (by rfl)))) pss_nil)
      (pss_cons (ps_if (pt_cmpR op_eq (pe_ix ix_tup (pv 0) pe_int (fun _ _ => rfl)) pe_str (nomark _)) (pss_one (ps_ret (pe_cmpR op_in_seq (pv 2) (pe_ix ix_tup (pv 0) pe_int (fun _ _ => rfl)) (by rfl)))) pss_nil)
      (pss_cons (ps_setLc (i := 4) (own := [("part", 3)]) rfl sc_fits.nd rfl rfl (sw_true rfl rfl rfl (by decide +kernel)) (pi_tup (pe_slice sl_tupA (pv 0) (po_some pe_int) po_none)) (blkOk_by (own := [("part", 3)]) (N := ["condition", "land", "plan", "part", "rows"]) (sc := defScope s_fits) (by decide +kernel)) (fun _ _ _ _ _ => (pg_name (i := 3) sc_fits.nd rfl (by first | exact Or.inl rfl | exact Or.inr rfl))) (fun _ _ _ _ _ => pts_nil) (fun _ _ _ _ _ => (pe_f ih hr pn0 (pa_cons (pv 3) (pa_cons (pv 1) (pa_cons (pv 2) pa_nil))))))
      (pss_cons (ps_if (pt_cmpR op_eq (pe_ix ix_tup (pv 0) pe_int (fun _ _ => rfl)) pe_str (nomark _)) (pss_one (ps_ret (pe_not (pe_ix ix_list (pv 4) pe_int (fun _ _ => rfl))))) pss_nil)
      (pss_one (ps_ret (pe_ifExp (pt_cmpR op_eq (pe_ix ix_tup (pv 0) pe_int (fun _ _ => rfl)) pe_str (nomark _)) (pe_callB (cr_all rfl) (by rfl) T.Z_all (by decide +kernel) (pa_cons (pv 4) pa_nil)) (pe_callB (cr_any rfl) (by rfl) T.Z_any (by decide +kernel) (pa_cons (pv 4) pa_nil))))))))), ?_⟩
    walk_at "0"
    obtain ⟨j, rfl⟩ : ∃ j, k = j + 1 := by
      cases k with
      | zero => exact absurd rfl hp
      | succ j => exact ⟨j, rfl⟩
    obtain ⟨z, a, r, rfl, hz⟩ := parts_inv hp
    walk_at "g"
    refine w_ixD0 hd fun u0 h0 => ?_
    cases dp_str h0
    walk_at "g"
    by_cases hl : z = "land"
    · subst hl
      refine if_t (decide_eq_true rfl) ?_
      rcases hz with ⟨_, rfl, hr0⟩ | ⟨e, _⟩ | ⟨e, _⟩
      · obtain ⟨n0, ns, rfl, _⟩ := isRow_inv hr0
        walk_at "g"
        refine w_ixD1 hd fun u1 h1 => ?_
        obtain ⟨ad, xs, rfl, hx, hxs⟩ := dp_tuple h1
        cases dpAll_intsV hxs
        refine w_inT hx rfl (flat_ints _) ?_
        rw [inV_ints, ← inRowD_ints]
        exact q _ (Same.refl _)
      · exact absurd e (by decide +kernel)
      · exact absurd rfl e
    · refine if_f (decide_eq_false hl) ?_
      walk_at "g"
      refine w_ixD0 hd fun u1 h1 => ?_
      cases dp_str h1
      walk_at "g"
      by_cases hpl : z = "plan"
      · subst hpl
        refine if_t (decide_eq_true rfl) ?_
        rcases hz with ⟨e, _⟩ | ⟨_, rfl, hr0⟩ | ⟨_, e, _⟩
        · exact absurd e (by decide +kernel)
        · obtain ⟨n0, ns, rfl, _⟩ := isRow_inv hr0
          walk_at "g"
          refine w_ixD1 hd fun u2 h2 => ?_
          obtain ⟨ad, xs, rfl, hx, hxs⟩ := dp_tuple h2
          cases dpAll_intsV hxs
          refine w_inT hx rfl (flat_ints _) ?_
          rw [inV_ints, ← inRowD_ints]
          have e : fitsD (j + 1) (.tuple [.str "plan", .tuple ((n0 :: ns).map PyData.int)]) l p = inRowD p (.tuple ((n0 :: ns).map PyData.int)) := by
            simp only [fitsD, show ¬ ("plan" : Str) = "land" by decide +kernel, if_false, if_true]
          rw [← e]
          exact q _ (Same.refl _)
        · exact absurd rfl e
      · refine if_f (decide_eq_false hpl) ?_
        rcases hz with ⟨e, _⟩ | ⟨e, _⟩ | ⟨_, _, hw, hys⟩
        · exact absurd e hl
        · exact absurd e hpl
        walk_at "g"
        obtain ⟨ad, xs, rfl, hx, hxs⟩ := dp_tuple hd
        cases hxs with
        | cons hx0 hxs =>
        refine w_sl1 hx fun p3 np3 => ?_
        rename_i v0 xs
        have s3 : Same H (upd H p3 (.tup xs)) := Same.new np3
        have hp3 : (upd H p3 (.tup xs)) p3 = some (.tup xs) := upd_same
        generalize upd H p3 (.tup xs) = H3 at *
        walk_at "g"
        refine ⟨⟨xs, tupOf hp3⟩, ?_⟩
        have hxs3 := dps_s s3 hxs
        have hln : xs.length = (a :: r).length := dpAll_len hxs3
        have hsm := okD_len sh
        simp only [List.length_cons] at hsm hln
        refine lc_pure walk_tup (by omega) ((a :: r).map fun y => [V.bl (fitsD j y l p)]) (by simp [hln]) (fun H' s => tupOf (s _ _ hp3)) ?_ ?_
        · rintro D i acc x H' H'' hD hi hacc hH' iv ⟨rfl, hxi⟩
          walk_at "g"
          refine ⟨rfl, ?_⟩
          walk_at "g"
          obtain ⟨e, he, hde⟩ := dpAll_getV hxs3 hxi
          have em : e ∈ a :: r := List.mem_of_getElem? he
          refine ⟨_, e, l, p, j, rfl, by omega, dp_s iv.1 hde, okD_mem sh (List.mem_cons_of_mem _ em), hys e em, fun H4 s4 => ?_⟩
          refine lcp_nx hD (by omega) hacc hH' iv s4 ?_
          rw [List.getElem?_map, he]
          rfl
        · intro D H4 hD s4 hH4
          rw [flat_one (fun y => V.bl (fitsD j y l p))] at hH4
          have sT := s3.trans s4
          have hd4 := dp_s sT hd
          walk_at "g"
          refine w_ixD0 hd4 fun u2 h2 => ?_
          cases dp_str h2
          walk_at "g"
          by_cases hn : z = "not"
          · subst hn
            refine if_t (decide_eq_true rfl) ?_
            walk_at "g"
            refine w_ixL (lstOf hH4) (v := .bl (fitsD j a l p)) (at_of (j := 0) rfl rfl) ?_
            walk_at "g"
            have e : fitsD (j + 1) (.tuple (.str "not" :: a :: r)) l p = !fitsD j a l p := by
              simp only [fitsD, hl, hpl, if_false, if_true]
            rw [← e]
            exact q _ sT
          · refine if_f (decide_eq_false hn) ?_
            walk_at "g"
            refine w_ixD0 hd4 fun u3 h3 => ?_
            cases dp_str h3
            walk_at "g"
            have hH5 : H4 D = some (.lst (((a :: r).map fun y => fitsD j y l p).map V.bl)) := by
              rw [hH4, List.map_map]
              rfl
            by_cases ha : z = "and"
            · subst ha
              refine if_t (decide_eq_true rfl) ?_
              walk_at "g"
              refine w_all (lstOf hH5) ?_
              have e : fitsD (j + 1) (.tuple (.str "and" :: a :: r)) l p = ((a :: r).map fun y => fitsD j y l p).all id := by
                rw [List.all_map]
                simp only [fitsD, hl, hpl, hn, if_false, if_true]
                rfl
              rw [← e]
              exact q _ sT
            · refine if_f (decide_eq_false ha) ?_
              walk_at "g"
              refine w_any (lstOf hH5) ?_
              have e : fitsD (j + 1) (.tuple (.str z :: a :: r)) l p = ((a :: r).map fun y => fitsD j y l p).any id := by
                rw [List.any_map]
                simp only [fitsD, hl, hpl, hn, ha, if_false]
                rfl
              rw [← e]
              exact q _ sT
theorem ok_fits (T : Tx K mg) : Ok P w K mg base 7 "fits" ["condition", "land", "plan"] (spFitsR K 6) := okr_fits T 6
theorem ok_is_rule (T : Tx K mg) : Ok P w K mg base 11 "is_rule" ["thing"] (spIsRule K) := by
  refine Ok.mk' T.G_is_rule T.F_is_rule (fun _ _ _ _ _ _ us hl => match us, hl with | [_], _ => rfl) sc_is_rule (fun vs H Q E h => ?_) (fun cdv A outer s H vs Q E hr h => ?_)
  · obtain ⟨v, d, rfl, hd, sh, q⟩ := h
    rfl
  · obtain ⟨v, d, rfl, hd, sh, q⟩ := h
    refine ⟨(tRet (tAndV (tCB (rIsi K) (tCons (tVar 0) (tCons (tC (.ty "tuple")) tNil))) (tAndV (tOp rEq (tCB (cLen K) (tCons (tVar 0) tNil)) (tC (.int 2))) (tAndV (tCall (spIsCond K) [] E (tCons (tOp (rIxT K) (tVar 0) (tC (.int 0))) tNil)) (tCall (spIsNum K) [] E (tCons (tOp (rIxT K) (tVar 0) (tC (.int 1))) (tCons (tC (.int 0)) (tCons (tC (.int 100)) tNil)))))))), (pss_one (ps_ret (pe_and (pe_callB call_isi (by rfl) T.Z_isinstance (by decide +kernel) (pa_cons (pv 0) (pa_cons (pe_bltn (v := .ty "tuple") (by rfl) T.Z_tuple (by decide +kernel) rfl) pa_nil))) (pe_and (pe_cmpR op_eq (pe_callB call_len (by rfl) T.Z_len (by decide +kernel) (pa_cons (pv 0) pa_nil)) pe_int (nomark _)) (pe_and (pe_f (ok_is_condition T) hr (pnx (L2N.takes_of rfl rfl rfl rfl)) (pa_cons (pe_ix ix_tup (pv 0) pe_int (fun _ _ => rfl)) pa_nil)) (pe_one (pe_f (ok_is_number T) hr (pnx (L2N.takes_of rfl rfl rfl rfl)) (pa_cons (pe_ix ix_tup (pv 0) pe_int (fun _ _ => rfl)) (pa_cons pe_int (pa_cons (pe_gi T.I_PLACES) pa_nil)))))))))), ?_⟩
    walk_at "0"
    walk_at "g"
    refine isi_tuple hd ?_
    walk_at "g"
    cases ht : isTupD d with
    | false =>
      walk_at "g"
      rw [← isRule_no ht]
      exact q _ (Same.refl _)
    | true =>
    obtain ⟨ds, rfl⟩ := is_tup ht
    walk_at "g"
    refine w_lenD hd ?_
    walk_at "g"
    refine if_b (fun h => ?_) (fun h => ?_)
    · have hl : ds.length = 2 := by
        simp at h
        omega
      match ds, hl with
      | [c, m], _ =>
      walk_at "g"
      refine w_ixD0 hd fun u0 h0 => ?_
      walk_at "g"
      refine ⟨u0, c, rfl, h0, okD_mem sh (by simp), fun H1 s1 => ?_⟩
      walk_at "g"
      cases hc : isCond c with
      | false =>
        walk_at "g"
        have e : isRule (.tuple [c, m]) = false := by
          simp only [isRule, hc, Bool.false_and]
        rw [← e]
        exact q _ s1
      | true =>
        walk_at "g"
        refine w_ixD1 (dp_s s1 hd) fun u1 h1 => ?_
        walk_at "g"
        refine ⟨u1, m, 0, 100, rfl, h1, ?_⟩
        have e : isRule (.tuple [c, m]) = isNum m 0 100 := by
          simp only [isRule, hc, Bool.true_and]
        rw [← e]
        exact q _ s1
    · have e : isRule (.tuple ds) = false := isRule_len fun z => by
        rw [z] at h
        simp at h
      rw [← e]
      exact q _ (Same.refl _)
theorem ok_are_rules (T : Tx K mg) : Ok P w K mg base 12 "are_rules" ["thing"] (spAreRules K) := by
  refine Ok.mk' T.G_are_rules T.F_are_rules (fun _ _ _ _ _ _ us hl => match us, hl with | [_], _ => rfl) sc_are_rules (fun vs H Q E h => ?_) (fun cdv A outer s H vs Q E hr h => ?_)
  · obtain ⟨v, d, rfl, hd, sh, q⟩ := h
    rfl
  · obtain ⟨v, d, rfl, hd, sh, q⟩ := h
    refine ⟨(tRet (tAndV (tCB (rIsi K) (tCons (tVar 0) (tCons (tC (.ty "tuple")) tNil))) (tAndV (tOp oLe (tCB (cLen K) (tCons (tVar 0) tNil)) (tC (.int 6))) (tCB (rAll K) (tCons (tLc (iTup K (tVar 0)) (gName 1) tYes (tCall (spIsRule K) [] E0 (tCons (tVar 1) tNil)) [1]) tNil))))), (pss_one (ps_ret (pe_and (pe_callB call_isi (by rfl) T.Z_isinstance (by decide +kernel) (pa_cons (pv 0) (pa_cons (pe_bltn (v := .ty "tuple") (by rfl) T.Z_tuple (by decide +kernel) rfl) pa_nil))) (pe_and (pe_cmpR op_le (pe_callB call_len (by rfl) T.Z_len (by decide +kernel) (pa_cons (pv 0) pa_nil)) pe_int (nomark _)) (pe_one (pe_callB (cr_all rfl) (by rfl) T.Z_all (by decide +kernel) (pa_cons (pe_lc (own := [("one", 1)]) rfl sc_are_rules.nd (pi_tup (pv 0)) (blkOk_by (own := [("one", 1)]) (N := ["thing", "one"]) (sc := defScope s_are_rules) (by decide +kernel)) (fun _ _ _ _ _ => (pg_name (i := 1) sc_are_rules.nd rfl (by first | exact Or.inl rfl | exact Or.inr rfl))) (fun _ _ _ _ _ => pts_nil) (fun _ _ _ _ _ => (pe_f (ok_is_rule T) hr pn0 (pa_cons (pv 1) pa_nil)))) pa_nil))))))), ?_⟩
    walk_at "0"
    walk_at "g"
    refine isi_tuple hd ?_
    walk_at "g"
    cases ht : isTupD d with
    | false =>
      walk_at "g"
      rw [← areRules_no ht]
      exact q _ (Same.refl _)
    | true =>
    obtain ⟨ds, rfl⟩ := is_tup ht
    walk_at "g"
    refine w_lenD hd ?_
    walk_at "g"
    have e6 : decide ((ds.length : Int) ≤ 6) = decide (ds.length ≤ 6) := by
      rw [decide_eq_decide]
      omega
    rw [e6]
    cases h6 : decide (ds.length ≤ 6) with
    | false =>
      walk_at "g"
      have e : areRules (.tuple ds) = false := by
        simp only [areRules, h6, Bool.false_and]
      rw [← e]
      exact q _ (Same.refl _)
    | true =>
      walk_at "g"
      obtain ⟨a, xs, rfl, hx, hxs⟩ := dp_tuple hd
      walk_at "g"
      refine ⟨⟨xs, hx⟩, ?_⟩
      have hxl : xs.length = ds.length := dpAll_len hxs
      have hsm : ds.length ≤ 6 := of_decide_eq_true h6
      refine lc_pure walk_tup (by omega) (ds.map fun y => [V.bl (isRule y)]) (by simp [hxl]) (fun H' s => tup_s s hx) ?_ ?_
      · rintro D i acc x H' H'' hD hi hacc hH' iv ⟨rfl, hxi⟩
        walk_at "g"
        refine ⟨rfl, ?_⟩
        walk_at "g"
        obtain ⟨e, he, hde⟩ := dpAll_getV hxs hxi
        refine ⟨x, e, rfl, dp_s iv.1 hde, okD_mem sh (List.mem_of_getElem? he), fun H1 s1 => ?_⟩
        refine lcp_nx hD (by omega) hacc hH' iv s1 ?_
        rw [List.getElem?_map, he]
        rfl
      · intro D H1 hD s1 hH1
        rw [flat_one (fun y => V.bl (isRule y))] at hH1
        walk_at "g"
        refine w_all (bs := ds.map isRule) (lstOf (by rw [hH1, List.map_map]; rfl)) ?_
        have e : areRules (.tuple ds) = (ds.map isRule).all id := by
          rw [List.all_map]
          simp only [areRules, h6, Bool.true_and]
          rfl
        rw [← e]
        exact q _ s1
theorem ok_need_rules (T : Tx K mg) : Ok P w K mg base 13 "need_rules" ["thing"] (spNeedRules K) := by
  refine Ok.mk' T.G_need_rules T.F_need_rules (fun _ _ _ _ _ _ us hl => match us, hl with | [_], _ => rfl) sc_need_rules (fun vs H Q E h => ?_) (fun cdv A outer s H vs Q E hr h => ?_)
  · obtain ⟨v, d, rfl, hd, sh, q1, q2⟩ := h
    rfl
  · obtain ⟨v, d, rfl, hd, sh, q1, q2⟩ := h
    refine ⟨(tIfS (tNot (tB (tCall (spAreRules K) [] E (tCons (tVar 0) tNil)))) (tRz K E "BadRules") tNext), (pss_one (ps_if (pt_not (pt_val (pe_f (ok_are_rules T) hr (pnx (L2N.takes_of rfl rfl rfl rfl)) (pa_cons (pv 0) pa_nil)))) (pss_one (ps_rz T.X_BadRules (L2N.takes_of rfl rfl rfl rfl))) pss_nil)), ?_⟩
    walk_at "0"
    walk_at "g"
    refine ⟨v, d, rfl, hd, sh, fun H1 s1 => ?_⟩
    walk_at "g"
    cases h : areRules d with
    | true =>
      walk_at "g"
      exact q1 h _ s1
    | false =>
      walk_at "g"
      exact q2 h _ s1
theorem ok_share_of (T : Tx K mg) : Ok P w K mg base 8 "share_of" ["rules", "land", "plan"] (spShareOf K) := by
  refine Ok.mk' T.G_share_of T.F_share_of (fun _ _ _ _ _ _ us hl => match us, hl with | [_, _, _], _ => rfl) sc_share_of (fun vs H Q E h => ?_) (fun cdv A outer s H vs Q E hr h => ?_)
  · obtain ⟨v, ds, l, p, rfl, hd, sh, hR, q⟩ := h
    rfl
  · obtain ⟨v, ds, l, p, rfl, hd, sh, hR, q⟩ := h
    refine ⟨(tSeq (tFor (iTup K (tVar 0)) (gTup K 2 (gCons (gName 3) (gCons (gName 4) gNil))) (tIfS (tB (tCall (spFitsR K 6) [] E (tCons (tVar 3) (tCons (tVar 1) (tCons (tVar 2) tNil))))) (tRet (tVar 4)) tNext))
      (tRet (tC (.int 0)))), (pss_cons (ps_for (passes_of rfl) rfl (pi_tup (pv 0)) (pg_tup (by rfl) (pgs_cons (pg_name (i := 3) sc_share_of.nd rfl (by first | exact Or.inl rfl | exact Or.inr rfl)) (pgs_cons (pg_name (i := 4) sc_share_of.nd rfl (by first | exact Or.inl rfl | exact Or.inr rfl)) pgs_nil))) (pss_one (ps_if (pt_val (pe_f (ok_fits T) hr (pnx (L2N.takes_of rfl rfl rfl rfl)) (pa_cons (pv 3) (pa_cons (pv 1) (pa_cons (pv 2) pa_nil))))) (pss_one (ps_ret (pv 4))) pss_nil)))
      (pss_one (ps_ret pe_int))), ?_⟩
    walk_at "0"
    walk_at "g"
    obtain ⟨a, xs, rfl, hx, hxs⟩ := dp_tuple hd
    walk_at "g"
    refine ⟨⟨xs, hx⟩, ?_⟩
    have hxl := dpAll_len hxs
    refine for_go walk_tup (fun i σ H' => (∃ x3 x4, σ = [some (.ref a), some (.int l), some (.int p), x3, x4]) ∧ Same H H' ∧ shareL ds l p = shareL (ds.drop i) l p) ⟨⟨_, _, rfl⟩, Same.refl _, rfl⟩ (fun i σ H' _ h => tup_s h.2.1 hx) ?_ ?_
    · rintro i x σ H' H'' hi ⟨⟨x3, x4, rfl⟩, s1, he⟩ ⟨rfl, hxi⟩
      obtain ⟨e, he2, hde⟩ := dpAll_getV hxs hxi
      have hm := List.mem_of_getElem? he2
      obtain ⟨c, m, rfl, hc, m0, m1⟩ := isRule_inv (areRules_mem hR hm)
      obtain ⟨a2, u, rfl, hs2, hu⟩ := dp_pair (dp_s s1 hde)
      refine w_gtup hs2 rfl ?_
      walk_at "g"
      refine ⟨u, c, l, p, 5, rfl, by decide, hu, okD_mem (okD_mem sh hm) (by simp), isCond_parts hc, fun H3 s3 => ?_⟩
      walk_at "g"
      rw [shareL_drop he2] at he
      cases hf : fitsD 5 c l p with
      | true =>
        walk_at "g"
        rw [hf] at he
        have he : shareL ds l p = m := he
        rw [← he]
        exact q _ (s1.trans s3)
      | false =>
        walk_at "g"
        rw [hf] at he
        exact ⟨⟨_, _, rfl⟩, s1.trans s3, he⟩
    · rintro σ H' ⟨⟨x3, x4, rfl⟩, s1, he⟩
      walk_at "g"
      rw [List.drop_of_length_le (by omega)] at he
      have he : shareL ds l p = 0 := he
      rw [← he]
      exact q _ s1
theorem ok_share (T : Tx K mg) : Ok P w K mg base 14 "share" ["rules", "user"] (spShare K) := by
  refine Ok.mk' T.G_share T.F_share (fun _ _ _ _ _ _ us hl => match us, hl with | [_, _], _ => rfl) sc_share (fun vs H Q E h => ?_) (fun cdv A outer s H vs Q E hr h => ?_)
  · obtain ⟨v, u, d, e, rfl, hd, he, sh, q1, q2, q3⟩ := h
    rfl
  · obtain ⟨v, u, d, e, rfl, hd, he, sh, q1, q2, q3⟩ := h
    refine ⟨(tSeq (tDrop (tCall (spNeedRules K) [] E (tCons (tVar 0) tNil)))
      (tSeq (tDrop (tCall (spNeedUser K) [] E (tCons (tVar 1) tNil)))
      (tRet (tCall (spShareOf K) [] E (tCons (tVar 0) (tCons (tOp (rIxT K) (tVar 1) (tC (.int 1))) (tCons (tOp (rIxT K) (tVar 1) (tC (.int 2))) tNil))))))), (pss_cons (ps_expr (pe_f (ok_need_rules T) hr (pnx (L2N.takes_of rfl rfl rfl rfl)) (pa_cons (pv 0) pa_nil)))
      (pss_cons (ps_expr (pe_f (ok_need_user T) hr (pnx (L2N.takes_of rfl rfl rfl rfl)) (pa_cons (pv 1) pa_nil)))
      (pss_one (ps_ret (pe_f (ok_share_of T) hr (pnx (L2N.takes_of rfl rfl rfl rfl)) (pa_cons (pv 0) (pa_cons (pe_ix ix_tup (pv 1) pe_int (fun _ _ => rfl)) (pa_cons (pe_ix ix_tup (pv 1) pe_int (fun _ _ => rfl)) pa_nil)))))))), ?_⟩
    walk_at "0"
    walk_at "g"
    refine ⟨v, d, rfl, hd, sh, fun hR H1 s1 => ?_, q2⟩
    walk_at "g"
    refine ⟨u, e, rfl, dp_s s1 he, fun hu => ?_, fun hu => q3 hR hu _ s1⟩
    have qq := q1 hR hu
    obtain ⟨ds, rfl⟩ := areRules_inv hR
    obtain ⟨n, l, p, rfl, _⟩ := isUser_is hu
    have he1 := dp_s s1 he
    walk_at "g"
    refine w_ixD1 he1 fun u1 h1 => ?_
    cases dp_int h1
    walk_at "g"
    refine w_ixD2 he1 fun u2 h2 => ?_
    cases dp_int h2
    walk_at "g"
    exact ⟨v, ds, l, p, rfl, dp_s s1 hd, sh, hR, fun H2 s2 => qq _ (s1.trans s2)⟩
theorem ok_plain (T : Tx K mg) : Ok P w K mg base 14 "plain" ["rules"] (spPlain K) := by
  refine Ok.mk' T.G_plain T.F_plain (fun _ _ _ _ _ _ us hl => match us, hl with | [_], _ => rfl) sc_plain (fun vs H Q E h => ?_) (fun cdv A outer s H vs Q E hr h => ?_)
  · obtain ⟨v, d, rfl, hd, sh, q1, q2⟩ := h
    rfl
  · obtain ⟨v, d, rfl, hd, sh, q1, q2⟩ := h
    refine ⟨(tSeq (tDrop (tCall (spNeedRules K) [] E (tCons (tVar 0) tNil)))
      (tRet (tLc (iRng1 (tCons (tC (.int 6)) tNil)) (gName 1) tYes (tLc (iRng1 (tCons (tC (.int 4)) tNil)) (gName 2) tYes (tCall (spShareOf K) [] E0 (tCons (tVar 0) (tCons (tVar 1) (tCons (tVar 2) tNil)))) [2]) [1]))), (pss_cons (ps_expr (pe_f (ok_need_rules T) hr (pnx (L2N.takes_of rfl rfl rfl rfl)) (pa_cons (pv 0) pa_nil)))
      (pss_one (ps_ret (pe_lc (own := [("land", 1)]) rfl sc_plain.nd (pi_range1 (by rfl) T.Z_range (pa_cons (pe_gi T.I_LANDS) pa_nil)) (blkOk_by (own := [("land", 1)]) (N := ["rules", "land", "plan"]) (sc := defScope s_plain) (by decide +kernel)) (fun _ _ _ _ _ => (pg_name (i := 1) sc_plain.nd rfl (by first | exact Or.inl rfl | exact Or.inr rfl))) (fun _ _ _ _ _ => pts_nil) (fun _ _ _ _ _ => (pe_lc (own := [("plan", 2)]) rfl sc_plain.nd (pi_range1 (by rfl) T.Z_range (pa_cons (pe_gi T.I_PLANS) pa_nil)) (blkOk_in (own := [("plan", 2)]) (N := ["rules", "land", "plan"]) (sc := ({ kind := PySem.ScopeKind.function, names := [ (PySem.Str.ofString ".0", PySem.NameKind.local), (PySem.Str.ofString "land", PySem.NameKind.cell), (PySem.Str.ofString "range", PySem.NameKind.globalImplicit), (PySem.Str.ofString "PLANS", PySem.NameKind.globalImplicit), (PySem.Str.ofString "rules", PySem.NameKind.free)], isGenerator := false, isCoroutine := false, more := [] : PySem.Scope })) (by decide +kernel)) (fun _ _ _ _ _ => (pg_name (i := 2) sc_plain.nd rfl (by first | exact Or.inl rfl | exact Or.inr rfl))) (fun _ _ _ _ _ => pts_nil) (fun _ _ _ _ _ => (pe_f (ok_share_of T) hr pn0 (pa_cons (pv 0) (pa_cons (pv 1) (pa_cons (pv 2) pa_nil))))))))))), ?_⟩
    walk_at "0"
    walk_at "g"
    refine ⟨v, d, rfl, hd, sh, fun hR H1 s1 => ?_, q2⟩
    obtain ⟨ds, rfl⟩ := areRules_inv hR
    have qq := q1 ds rfl hR
    have hd1 := dp_s s1 hd
    walk_at "g"
    refine ⟨by decide, by decide, ?_⟩
    refine lc_go walk_range (by decide) (fun D i acc H' => Same H1 H' ∧ ∃ as : List Addr, acc = as.map V.ref ∧ as.length = i ∧ ∀ (j : Nat) (b : Addr), as[j]? = some b → b ≠ D ∧ H' b = some (.lst ((plainRow ds ((j : Nat) : Int)).map V.int))) (fun D hD => ⟨Same.new hD, [], rfl, rfl, fun _ _ h => by simp at h⟩) (fun _ _ _ _ _ _ _ => trivial) ?_ ?_
    · rintro D i acc x H' H'' hD hi hacc hH' ⟨sm, as, rfl, hl, has⟩ ⟨rfl, rfl⟩
      walk_at "g"
      refine ⟨rfl, ?_⟩
      walk_at "g"
      refine ⟨by decide, by decide, ?_⟩
      refine lc_pure walk_range (by decide) ((List.range 4).map fun (p : Nat) => [V.int (shareL ds (i : Int) (p : Int))]) (by simp) (fun _ _ => trivial) ?_ ?_
      · rintro D2 j acc2 x2 G' G'' hD2 hj hacc2 hG' iv ⟨rfl, rfl⟩
        have hj4 : j < 4 := hj
        walk_at "g"
        refine ⟨rfl, ?_⟩
        walk_at "g"
        refine ⟨v, ds, 0 + (i : Int), 0 + (j : Int), rfl, dp_s iv.1 (dp_s sm hd1), sh, hR, fun H3 s3 => ?_⟩
        refine lcp_nx hD2 (by omega) hacc2 hG' iv s3 ?_
        rw [List.getElem?_map, List.getElem?_range hj4]
        simp
      · intro D2 H3 hD2 s3 hD3
        rw [flat_one (fun (p : Nat) => V.int (shareL ds (i : Int) (p : Int)))] at hD3
        have hD3 : H3 D2 = some (.lst ((plainRow ds (i : Int)).map V.int)) := by
          rw [hD3]
          unfold plainRow
          rw [List.map_map]
          rfl
        have nDD : D2 ≠ D := (ne_of_none hH' hD2).symm
        refine lc_nx (by have : i < 6 := hi; omega) hacc (s3 _ _ hH') ⟨fun b o e => ?_, as ++ [D2], by simp, by simp [hl], fun j b hb => ?_⟩
        · rw [upd_ne (ne_of_none e hD)]
          exact s3 _ _ (sm _ _ e)
        · rcases Nat.lt_or_ge j as.length with hj | hj
          · rw [List.getElem?_append_left hj] at hb
            obtain ⟨n1, h1⟩ := has j b hb
            exact ⟨n1, by rw [upd_ne n1]; exact s3 _ _ h1⟩
          · have hj2 : j = as.length := by
              have := (List.getElem?_eq_some_iff.mp hb).1
              simp at this
              omega
            subst hj2
            rw [List.getElem?_append_right (Nat.le_refl _)] at hb
            have eb : D2 = b := by simpa using hb
            subst eb
            exact ⟨nDD, by rw [upd_ne nDD, hl]; exact hD3⟩
    · rintro D acc H' hD hH' hl' ⟨sm, as, rfl, hl, has⟩
      have h6 : as.length = 6 := hl
      have := dpAll_rows (K := K) (H := H') (f := fun j => plainRow ds ((j : Nat) : Int)) (as := as) (m := 0) fun j b hb => by
        rw [Nat.zero_add]
        exact (has j b hb).2
      rw [h6] at this
      simp only [Nat.zero_add] at this
      exact qq D H' (s1.trans sm) (s1.free hD) (.lst (lstOf hH') this)
theorem ok_is_shares (T : Tx K mg) : Ok P w K mg base 2 "is_shares" ["thing"] (spIsShares K) := by
  refine Ok.mk' T.G_is_shares T.F_is_shares (fun _ _ _ _ _ _ us hl => match us, hl with | [_], _ => rfl) sc_is_shares (fun vs H Q E h => ?_) (fun cdv A outer s H vs Q E hr h => ?_)
  · obtain ⟨v, d, rfl, hd, q⟩ := h
    rfl
  · obtain ⟨v, d, rfl, hd, q⟩ := h
    refine ⟨(tSeq (tIfS (tOr (tNot (tB (tCB (rIsi K) (tCons (tVar 0) (tCons (tC (.ty "list")) tNil))))) (tTest (tOp rNe (tCB (cLen K) (tCons (tVar 0) tNil)) (tC (.int 6))))) (tRet (tC (.bl false))) tNext)
      (tSeq (tFor (iList K (tVar 0)) (gName 1) (tIfS (tOr (tNot (tB (tCB (rIsi K) (tCons (tVar 1) (tCons (tC (.ty "list")) tNil))))) (tOr (tTest (tOp rNe (tCB (cLen K) (tCons (tVar 1) tNil)) (tC (.int 4)))) (tNot (tB (tCB (rAll K) (tCons (tLc (iList K (tVar 1)) (gName 2) tYes (tCall (spIsNum K) [] E0 (tCons (tVar 2) (tCons (tC (.int 0)) (tCons (tC (.int 100)) tNil)))) [2]) tNil)))))) (tRet (tC (.bl false))) tNext))
      (tRet (tC (.bl true))))), (pss_cons (ps_if (PW.pt (pw_or (pt_not (pt_val (pe_callB call_isi (by rfl) T.Z_isinstance (by decide +kernel) (pa_cons (pv 0) (pa_cons (pe_bltn (v := .ty "list") (by rfl) T.Z_list (by decide +kernel) rfl) pa_nil))))) (pw_or1 (pt_cmpR op_ne (pe_callB call_len (by rfl) T.Z_len (by decide +kernel) (pa_cons (pv 0) pa_nil)) (pe_gi T.I_LANDS) (nomark _))))) (pss_one (ps_ret pe_bl)) pss_nil)
      (pss_cons (ps_for (passes_of rfl) rfl (pi_list (pv 0)) (pg_name (i := 1) sc_is_shares.nd rfl (by first | exact Or.inl rfl | exact Or.inr rfl)) (pss_one (ps_if (PW.pt (pw_or (pt_not (pt_val (pe_callB call_isi (by rfl) T.Z_isinstance (by decide +kernel) (pa_cons (pv 1) (pa_cons (pe_bltn (v := .ty "list") (by rfl) T.Z_list (by decide +kernel) rfl) pa_nil))))) (pw_or (pt_cmpR op_ne (pe_callB call_len (by rfl) T.Z_len (by decide +kernel) (pa_cons (pv 1) pa_nil)) (pe_gi T.I_PLANS) (nomark _)) (pw_or1 (pt_not (pt_val (pe_callB (cr_all rfl) (by rfl) T.Z_all (by decide +kernel) (pa_cons (pe_lc (own := [("one", 2)]) rfl sc_is_shares.nd (pi_list (pv 1)) (blkOk_by (own := [("one", 2)]) (N := ["thing", "row", "one"]) (sc := defScope s_is_shares) (by decide +kernel)) (fun _ _ _ _ _ => (pg_name (i := 2) sc_is_shares.nd rfl (by first | exact Or.inl rfl | exact Or.inr rfl))) (fun _ _ _ _ _ => pts_nil) (fun _ _ _ _ _ => (pe_f (ok_is_number T) hr pn0 (pa_cons (pv 2) (pa_cons pe_int (pa_cons (pe_gi T.I_PLACES) pa_nil)))))) pa_nil)))))))) (pss_one (ps_ret pe_bl)) pss_nil)))
      (pss_one (ps_ret pe_bl)))), ?_⟩
    walk_at "0"
    walk_at "g"
    refine isi_list hd ?_
    walk_at "g"
    cases hL : isListD d with
    | false =>
      walk_at "g"
      rw [← isShares_no hL]
      exact q _ (Same.refl _)
    | true =>
      obtain ⟨ds, rfl⟩ := is_list hL
      obtain ⟨a, xs, rfl, hs, ha⟩ := dp_list hd
      have hl := dpAll_len ha
      walk_at "g"
      refine w_lenL hs ?_
      walk_at "g"
      by_cases h6 : ds.length = 6
      · have e : (!decide ((xs.length : Int) = 6)) = false := by
          rw [hl, h6]
          rfl
        rw [e]
        walk_at "g"
        refine ⟨⟨_, hs⟩, ?_⟩
        refine for_go (walk_list (xs := xs)) (fun i σ H' => (∃ x1 x2, σ = [some (.ref a), x1, x2]) ∧ Same H H' ∧ (ds.take i).all isShareRow = true) ⟨⟨_, _, rfl⟩, Same.refl _, rfl⟩ (fun _ _ H' _ h => h.2.1.seq hs) ?_ ?_
        · rintro i x σ H1' H1 hi ⟨⟨x1, x2, rfl⟩, s1, hall⟩ ⟨rfl, hxi⟩
          obtain ⟨e, he, hde⟩ := dpAll_getV ha hxi
          have hx := dp_s s1 hde
          have hno : isShareRow e = false → isShares (.list ds) = false := fun h => by
            simp only [isShares, h6, decide_true, Bool.true_and]
            rw [List.all_eq_false]
            exact ⟨e, List.mem_of_getElem? he, by simp [h]⟩
          have hyes : isShareRow e = true → (ds.take (i + 1)).all isShareRow = true := fun h => by
            rw [List.take_add_one, he]
            simp only [Option.toList_some, List.all_append, hall, List.all_cons, h, List.all_nil, Bool.and_self]
          walk_at "g"
          refine isi_list hx ?_
          walk_at "g"
          cases hR : isListD e with
          | false =>
            walk_at "g"
            rw [← hno (isShareRow_no hR)]
            exact q _ s1
          | true =>
            obtain ⟨es, rfl⟩ := is_list hR
            obtain ⟨b, ys, rfl, hb, hys⟩ := dp_list hx
            have hyl := dpAll_len hys
            walk_at "g"
            refine w_lenL hb ?_
            walk_at "g"
            by_cases h4 : es.length = 4
            · have e4 : (!decide ((ys.length : Int) = 4)) = false := by
                rw [hyl, h4]
                rfl
              rw [e4]
              walk_at "g"
              refine ⟨⟨_, hb⟩, ?_⟩
              refine lc_pure (walk_list (K := K) (a := b) (xs := ys)) (by omega) (es.map fun d => [V.bl (isNum d 0 100)]) (by simp [hyl]) (fun H' s => s.seq hb) ?_ ?_
              · rintro D j acc x H' H'' hD hj hacc hH' iv ⟨rfl, hxj⟩
                obtain ⟨y, hy, hdy⟩ := dpAll_getV hys hxj
                walk_at "g"
                refine ⟨rfl, ?_⟩
                walk_at "g"
                refine ⟨x, y, 0, 100, rfl, dp_s iv.1 hdy, ?_⟩
                exact lcp_nx hD (by omega) hacc hH' iv (Same.refl _) (by rw [List.getElem?_map, hy]; rfl)
              · intro D H2 hD s2 hH2
                rw [flat_one (fun d => V.bl (isNum d 0 100)) es] at hH2
                have hH2' : H2 D = some (.lst ((es.map fun d => isNum d 0 100).map V.bl)) := by
                  rw [hH2, List.map_map]
                  rfl
                walk_at "g"
                refine w_all (lstOf hH2') ?_
                have er : (es.map fun d => isNum d 0 100).all id = isShareRow (.list es) := by
                  simp only [isShareRow, h4, decide_true, Bool.true_and, List.all_map]
                  rfl
                rw [er]
                walk_at "g"
                cases hs4 : isShareRow (.list es) with
                | true =>
                  walk_at "g"
                  exact ⟨⟨_, _, rfl⟩, s1.trans s2, hyes hs4⟩
                | false =>
                  walk_at "g"
                  rw [← hno hs4]
                  exact q _ (s1.trans s2)
            · have e4 : (!decide ((ys.length : Int) = 4)) = true := by
                rw [hyl, decide_eq_false (fun z => h4 (by omega))]
                rfl
              rw [e4]
              walk_at "g"
              rw [← hno (by simp [isShareRow, h4])]
              exact q _ s1
        · rintro σ H1 ⟨_, s1, hall⟩
          walk_at "g"
          have e : isShares (.list ds) = true := by
            rw [List.take_of_length_le (by omega)] at hall
            simp only [isShares, h6, hall, decide_true, Bool.and_self]
          rw [← e]
          exact q _ s1
      · have e : (!decide ((xs.length : Int) = 6)) = true := by
          rw [hl, decide_eq_false (fun z => h6 (by omega))]
          rfl
        rw [e]
        walk_at "g"
        have e : isShares (.list ds) = false := by simp [isShares, h6]
        rw [← e]
        exact q _ (Same.refl _)
theorem ok_any_of (T : Tx K mg) : Ok P w K mg base 1 "any_of" ["parts"] (spAnyOf K) := by
  refine Ok.mk' T.G_any_of T.F_any_of (fun _ _ _ _ _ _ us hl => match us, hl with | [_], _ => rfl) sc_any_of (fun vs H Q E h => ?_) (fun cdv A outer s H vs Q E hr h => ?_)
  · obtain ⟨p, xs, ds, rfl, hp, ha, h1, h2, q⟩ := h
    rfl
  · obtain ⟨p, xs, ds, rfl, hp, ha, h1, h2, q⟩ := h
    refine ⟨(tSeq (tIfS (tTest (tOp rEq (tCB (cLen K) (tCons (tVar 0) tNil)) (tC (.int 1)))) (tRet (tOp (rIxL K) (tVar 0) (tC (.int 0)))) tNext)
      (tSeq (tIfS (tTest (tOp oLt (tCB (cLen K) (tCons (tVar 0) tNil)) (tC (.int 6)))) (tRet (tOp (rCatA K) (tTup (tCons (tC (.str "or")) tNil)) (tCB (cTuple K) (tCons (tVar 0) tNil)))) tNext)
      (tRet (tOp (rCatA K) (tOp (rCatA K) (tTup (tCons (tC (.str "or")) tNil)) (tCB (cTuple K) (tCons (tSl (rSlL K) (tVar 0) tNoPart (tPart (tC (.int 4)))) tNil))) (tTup (tCons (tOp (rCatA K) (tTup (tCons (tC (.str "or")) tNil)) (tCB (cTuple K) (tCons (tSl (rSlL K) (tVar 0) (tPart (tC (.int 4))) tNoPart) tNil))) tNil)))))), (pss_cons (ps_if (pt_cmpR op_eq (pe_callB call_len (by rfl) T.Z_len (by decide +kernel) (pa_cons (pv 0) pa_nil)) pe_int (nomark _)) (pss_one (ps_ret (pe_ix ix_list (pv 0) pe_int (fun _ _ => rfl)))) pss_nil)
      (pss_cons (ps_if (pt_cmpR op_lt (pe_callB call_len (by rfl) T.Z_len (by decide +kernel) (pa_cons (pv 0) pa_nil)) pe_int (nomark _)) (pss_one (ps_ret (pe_op op_catA (pe_tup (pa_cons pe_str pa_nil)) (pe_callTy call_tuple_of (by rfl) T.Z_tuple (by decide +kernel) (pa_cons (pv 0) pa_nil))))) pss_nil)
      (pss_one (ps_ret (pe_op op_catA (pe_op op_catA (pe_tup (pa_cons pe_str pa_nil)) (pe_callTy call_tuple_of (by rfl) T.Z_tuple (by decide +kernel) (pa_cons (pe_slice sl_list (pv 0) po_none (po_some pe_int)) pa_nil))) (pe_tup (pa_cons (pe_op op_catA (pe_tup (pa_cons pe_str pa_nil)) (pe_callTy call_tuple_of (by rfl) T.Z_tuple (by decide +kernel) (pa_cons (pe_slice sl_list (pv 0) (po_some pe_int) po_none) pa_nil))) pa_nil))))))), ?_⟩
    walk_at "0"
    have hl := dpAll_len ha
    walk_at "g"
    refine w_lenL (lstOf hp) ?_
    walk_at "g"
    by_cases e1 : ds.length = 1
    · rw [show decide ((xs.length : Int) = 1) = true from decide_eq_true (by omega)]
      walk_at "g"
      obtain ⟨v, hv, hdv⟩ := dpAll_get ha (List.getElem?_eq_getElem (show 0 < ds.length by omega))
      refine w_ixL (lstOf hp) (at_of (j := 0) rfl hv) (q v H (Same.refl _) ?_)
      have e : anyOf ds = ds[0] := by
        unfold anyOf
        rw [if_pos e1, List.getD_eq_getElem?_getD, List.getElem?_eq_getElem (show 0 < ds.length by omega)]
        rfl
      rw [e]
      exact hdv
    · rw [show decide ((xs.length : Int) = 1) = false from decide_eq_false (by omega)]
      walk_at "g"
      refine w_lenL (lstOf hp) ?_
      walk_at "g"
      by_cases e6 : ds.length < 6
      · rw [show decide ((xs.length : Int) < 6) = true from decide_eq_true (by omega)]
        walk_at "g"
        refine w_newT (by simp) fun t1 H1 s1 nt1 ht1 => ?_
        walk_at "g"
        refine w_tupleD (lstOf (s1 _ _ hp)) (dps_s s1 ha) fun t2 H2 s2 _ hd2 => ?_
        refine w_catD (.tup (tupOf (s2 _ _ ht1)) (.cons (.str _) .nil)) hd2 (by simp; omega) fun u H3 s3 hu => ?_
        refine q u H3 ((s1.trans s2).trans s3) ?_
        unfold anyOf
        rw [if_neg e1, if_pos e6]
        exact hu
      · rw [show decide ((xs.length : Int) < 6) = false from decide_eq_false (by omega)]
        walk_at "g"
        refine w_newT (by simp) fun t1 H1 s1 nt1 ht1 => ?_
        walk_at "g"
        refine w_slLToN (k := 4) (lstOf (s1 _ _ hp)) fun p2 H2 s2 np2 hp2 => ?_
        walk_at "g"
        refine w_tupleD (lstOf hp2) (dpAll_take 4 (dps_s (s1.trans s2) ha)) fun t3 H3 s3 _ hd3 => ?_
        refine w_catD (.tup (tupOf (s3 _ _ (s2 _ _ ht1))) (.cons (.str _) .nil)) hd3 (by simp; omega) fun u4 H4 s4 hu4 => ?_
        have s04 := ((s1.trans s2).trans s3).trans s4
        walk_at "g"
        refine w_newT (by simp) fun t5 H5 s5 nt5 ht5 => ?_
        walk_at "g"
        refine w_slLFrom (k := 4) (lstOf ((s04.trans s5) _ _ hp)) fun p6 H6 s6 np6 hp6 => ?_
        walk_at "g"
        refine w_tupleD (lstOf hp6) (dpAll_drop 4 (dps_s ((s04.trans s5).trans s6) ha)) fun t7 H7 s7 _ hd7 => ?_
        refine w_catD (.tup (tupOf (s7 _ _ (s6 _ _ ht5))) (.cons (.str _) .nil)) hd7 (by simp; omega) fun u8 H8 s8 hu8 => ?_
        walk_at "g"
        refine w_newT (by simp) fun t9 H9 s9 nt9 ht9 => ?_
        have s49 := (((s5.trans s6).trans s7).trans s8).trans s9
        refine w_catD (dp_s s49 hu4) (.tup (tupOf ht9) (.cons (dp_s s9 hu8) .nil)) (by simp; omega) fun u Ha sa hu => ?_
        refine q u Ha ((s04.trans s49).trans sa) ?_
        unfold anyOf
        rw [if_neg e1, if_neg e6]
        exact hu
theorem ok_condition_for (T : Tx K mg) : Ok P w K mg base 2 "condition_for" ["shares", "many"] (spCondFor K) := by
  refine Ok.mk' T.G_condition_for T.F_condition_for (fun _ _ _ _ _ _ us hl => match us, hl with | [_, _], _ => rfl) sc_condition_for (fun vs H Q E h => ?_) (fun cdv A outer s H vs Q E hr h => ?_)
  · obtain ⟨v, m, x, rfl, hd, hm, hx, q⟩ := h
    rfl
  · obtain ⟨v, m, x, rfl, hd, hm, hx, q⟩ := h
    refine ⟨(tSeq (tAsg tDNewT (gName 2))
      (tSeq (tFor (iEnum K (tCons (tVar 0) tNil)) (gTup K 2 (gCons (gName 3) (gCons (gName 4) gNil))) (tSeq (tAsg (tCB (cTuple K) (tCons (tLc (iRng1 (tCons (tC (.int 4)) tNil)) (gName 5) (tTest (tOp rEq (tOp (rIxL K) (tVar 4) (tVar 5)) (tVar 1))) (tVar 5) [5]) tNil)) (gName 6))
      (tIfS (tTest (tOp (rNeD K) (tVar 6) (tTup tNil))) (sDPut (tVar 2) (tVar 6) (tOp (rCatA K) (tDGet2 (tVar 2) (tVar 6) (tTup tNil)) (tTup (tCons (tVar 3) tNil)))) tNext)))
      (tRet (tCall (spAnyOf K) [] E (tCons (tLockE (tLc (iKeys (tVar 2)) (gName 6) tYes (tTup (tCons (tC (.str "and")) (tCons (tTup (tCons (tC (.str "land")) (tCons (tDGet (tVar 2) (tVar 6)) tNil))) (tCons (tTup (tCons (tC (.str "plan")) (tCons (tVar 6) tNil))) tNil)))) [6])) tNil))))), (pss_cons (ps_set (i := 2) sc_condition_for.nd rfl (by first | exact Or.inl rfl | exact Or.inr rfl) pe_dnewT)
      (pss_cons (ps_for (passes_of rfl) rfl (pi_enum (by rfl) T.Z_enumerate (pa_cons (pv 0) pa_nil)) (pg_tup (by rfl) (pgs_cons (pg_name (i := 3) sc_condition_for.nd rfl (by first | exact Or.inl rfl | exact Or.inr rfl)) (pgs_cons (pg_name (i := 4) sc_condition_for.nd rfl (by first | exact Or.inl rfl | exact Or.inr rfl)) pgs_nil))) (pss_cons (ps_set (i := 6) sc_condition_for.nd rfl (by first | exact Or.inl rfl | exact Or.inr rfl) (pe_callTy call_tuple_of (by rfl) T.Z_tuple (by decide +kernel) (pa_cons (pe_lc (own := [("plan", 5)]) rfl sc_condition_for.nd (pi_range1 (by rfl) T.Z_range (pa_cons (pe_gi T.I_PLANS) pa_nil)) (blkOk_by (own := [("plan", 5)]) (N := ["shares", "many", "lands", "land", "row", "plan", "plans"]) (sc := defScope s_condition_for) (by decide +kernel)) (fun _ _ _ _ _ => (pg_name (i := 5) sc_condition_for.nd rfl (by first | exact Or.inl rfl | exact Or.inr rfl))) (fun _ _ _ _ _ => (pts_one (pt_cmpR op_eq (pe_ix ix_list (pv 4) (pv 5) (fun _ _ => rfl)) (pv 1) (nomark _)))) (fun _ _ _ _ _ => (pv 5))) pa_nil)))
      (pss_one (ps_if (pt_cmpR (op_neD hr.units) (pv 6) (pe_tup pa_nil) (nomark _)) (pss_one (ps_dput (hu1 hr) (pv 2) (pv 6) (pe_op op_catA (pe_dget2 (hu1 hr) (pv 2) (pv 6) (pe_tup pa_nil) ⟨by rfl, by rfl, by rfl, by rfl⟩) (pe_tup (pa_cons (pv 3) pa_nil))) (by rfl))) pss_nil))))
      (pss_one (ps_ret (pe_f (ok_any_of T) hr (pnx (L2N.takes_of rfl rfl rfl rfl)) (pa_cons (pe_lock (pe_lc (own := [("plans", 6)]) rfl sc_condition_for.nd (pi_keys (pv 2)) (blkOk_by (own := [("plans", 6)]) (N := ["shares", "many", "lands", "land", "row", "plan", "plans"]) (sc := defScope s_condition_for) (by decide +kernel)) (fun _ _ _ _ _ => (pg_name (i := 6) sc_condition_for.nd rfl (by first | exact Or.inl rfl | exact Or.inr rfl))) (fun _ _ _ _ _ => pts_nil) (fun _ _ _ _ _ => (pe_tup (pa_cons pe_str (pa_cons (pe_tup (pa_cons pe_str (pa_cons (pe_dget (hu1 hr) (pv 2) (pv 6) (fun _ _ => rfl)) pa_nil))) (pa_cons (pe_tup (pa_cons pe_str (pa_cons (pv 6) pa_nil))) pa_nil))))))) pa_nil)))))), ?_⟩
    walk_at "0"
    obtain ⟨a, xs, rfl, hs, ha⟩ := dp_list hd
    have hl := dpAll_len ha
    rw [List.length_map, hm.six] at hl
    walk_at "g"
    refine w_dnewT fun D H1 s1 nD hD => ?_
    walk_at "g"
    refine ⟨a, xs, rfl, s1.seq hs, ?_⟩
    refine for_go (walk_enum (K := K) (a := a) (xs := xs)) (fun i σ H' => (∃ x3 x4 x5 x6, σ = [some (.ref a), some (.int x), some (.ref D), x3, x4, x5, x6]) ∧ Same H H' ∧ ∃ kvs, H' D = some (.dT kvs) ∧ GrpV K H' kvs (grpTo x m i)) ⟨⟨_, _, _, _, rfl⟩, s1, [], hD, True.intro⟩ (fun _ _ H' _ h => h.2.1.seq hs) ?_ ?_
    · rintro i y σ H2 H3' hi ⟨⟨x3, x4, x5, x6, rfl⟩, s2, kvs, hkv, hg⟩ ⟨T', u1, u2, rfl, nT, rfl, e1, e2⟩
      cases e1
      have s3 : Same H2 (upd H2 T' (.tup [.int (i : Nat), u2])) := Same.new nT
      refine w_gtup (tupOf upd_same) rfl ?_
      generalize upd H2 T' (.tup [.int (i : Nat), u2]) = H3 at *
      obtain ⟨d2, hd2, hu2⟩ := dpAll_getV ha e2
      rw [List.getElem?_map] at hd2
      obtain ⟨r, hr, rfl⟩ := Option.map_eq_some_iff.mp hd2
      have hr4 := hm.four r (List.mem_of_getElem? hr)
      have hmr : m.getD i [] = r := by rw [List.getD_eq_getElem?_getD, hr]; rfl
      obtain ⟨b, ys, rfl, hb, hys⟩ := dp_list (dp_s (s2.trans s3) hu2)
      have ey := dpAll_intsV hys
      subst ey
      walk_at "g"
      refine ⟨by decide, by decide, ?_⟩
      refine lc_pure walk_range (by decide) ((List.range 4).map fun p => if decide (r.getD p 0 = x) = true then [V.int (p : Nat)] else []) (by simp) (fun _ _ => trivial) ?_ ?_
      · rintro C j acc z G' G'' hC hj hacc hG' iv ⟨rfl, rfl⟩
        have hj4 : j < 4 := hj
        walk_at "g"
        refine ⟨rfl, ?_⟩
        walk_at "g"
        rw [Int.zero_add]
        have hrj : r[j]? = some (r.getD j 0) := by
          rw [List.getD_eq_getElem?_getD, List.getElem?_eq_getElem (by omega)]
          rfl
        refine w_ixL (iv.1.seq hb) (at_of (j := j) rfl (by rw [List.getElem?_map, hrj]; rfl)) ?_
        walk_at "g"
        refine if_b (fun hf => ?_) (fun hf => ?_)
        · walk_at "g"
          refine lcp_nx hC (by omega) hacc hG' iv (Same.refl _) ?_
          rw [List.getElem?_map, List.getElem?_range hj4]
          simp only [Option.map_some, hf]
          rfl
        · walk_at "g"
          refine lcp_sk hacc hG' iv (Same.refl _) ?_
          rw [List.getElem?_map, List.getElem?_range hj4]
          simp only [Option.map_some, hf]
          rfl
      · intro C H4 hC s4 hC4
        rw [flat_if (fun p : Nat => decide (r.getD p 0 = x)) (fun p : Nat => V.int (p : Nat)), plansOf_map] at hC4
        walk_at "g"
        refine w_tupleD (lstOf hC4) (dpAll_ints _) fun t H5 s5 ht5 hd5 => ?_
        walk_at "g"
        refine w_newT (by simp) fun t6 H6 s6 nt6 ht6 => ?_
        refine w_neD (dp_s s6 hd5) (.tup (tupOf ht6) .nil) (gd_tup (n := 63) (gds_mem fun e he => by
          obtain ⟨z, _, rfl⟩ := List.mem_map.mp he
          exact gd_int) (by
            rw [List.length_map]
            unfold plansOf
            rw [List.length_map]
            exact Nat.le_trans (List.length_filter_le _ _) (by simp))).sh rfl ?_
        have s26 := ((s3.trans s4).trans s5).trans s6
        have s06 := s2.trans s26
        have hkv6 := s26 _ _ hkv
        have hg6 := grp_s s26 hg
        have ht6' := s6 _ _ ht5
        walk_at "g"
        by_cases hp : plansOf x r = []
        · rw [hp]
          rw [show PyData.eqv (.tuple (([] : List Int).map PyData.int)) (.tuple []) = true by decide +kernel]
          walk_at "g"
          refine ⟨⟨_, _, _, _, rfl⟩, s06, kvs, hkv6, ?_⟩
          unfold grpTo
          rw [hmr, if_pos hp]
          exact hg6
        · have hne : PyData.eqv (.tuple ((plansOf x r).map PyData.int)) (.tuple []) = false := by
            cases hq : plansOf x r with
            | nil => exact absurd hq hp
            | cons z zs => rfl
          rw [hne]
          walk_at "g"
          refine w_dput (w_op (w_dget2 (w_var rfl ⟨D, rfl, .inr ⟨kvs, .inl hkv6⟩, w_var rfl (w_tup (w_nil ?_))⟩)))
          refine w_newT (by simp) fun t7 H7 s7 nt7 ht7 => ?_
          have hkv7 := s7 _ _ hkv6
          have ht7' := s7 _ _ ht6'
          have kk : ((plansOf x r).map (Sum.inl : Int → Key)).map kV = (plansOf x r).map V.int := by
            rw [List.map_map]
            rfl
          refine ⟨_, .inr ⟨kvs, (plansOf x r).map Sum.inl, t, .inl hkv7, rfl, by rw [kk]; exact ht7', rfl⟩, ?_⟩
          have hval : Dp K H7 ((valV kvs ((plansOf x r).map Sum.inl)).getD (.ref t7)) (intsD (lsOf (grpTo x m i) (plansOf x r))) := by
            rcases grp_val (ps := plansOf x r) (grp_s s7 hg6) with ⟨e1, e2⟩ | ⟨v, e1, e2⟩
            · rw [e1, e2]
              exact .tup (tupOf ht7) .nil
            · rw [e1]
              exact e2
          walk_at "g"
          refine w_newT (by simp) fun t8 H8 s8 nt8 ht8 => ?_
          refine w_catD (dp_s s8 hval) (.tup (tupOf ht8) (.cons (.int _) .nil)) ?_ fun u H9 s9 hu => ?_
          · rw [List.length_map, List.length_singleton]
            have h1 : (lsOf (grpTo x m i) (plansOf x r)).length ≤ 1000 := by
              by_cases hin : ∃ e ∈ grpTo x m i, e.1 = plansOf x r
              · obtain ⟨e, he, hee⟩ := hin
                rw [← hee, lsOf_in (grpI x m i).nd he, ((grpI x m i).ne e he).2.2, List.length_map]
                exact Nat.le_trans (List.length_filter_le _ _) (by rw [List.length_range]; omega)
              · rw [lsOf_out fun e he z => hin ⟨e, he, z⟩]
                simp
            omega
          walk_at "g"
          have s79 := s8.trans s9
          have hkv9 := s79 _ _ hkv7
          refine a_dputT hkv9 (by rw [kk]; exact s79 _ _ ht7') ?_ ?_
          · have h1 := grp_len hg
            have h2 := grpTo_len x m i
            omega
          have hu9 : Dp K H9 u (intsD (lsOf (grpTo x m i) (plansOf x r) ++ [(i : Int)])) := by
            unfold intsD
            rw [List.map_append]
            exact hu
          have hg9 := grp_put (l := (i : Int)) (grp_s (s7.trans s79) hg6) hu9
          walk_at "g"
          refine ⟨⟨_, _, _, _, rfl⟩, fun b o e => ?_, _, upd_same, ?_⟩
          · rw [upd_ne (ne_of_none e nD)]
            exact s79 _ _ (s7 _ _ (s06 _ _ e))
          · unfold grpTo
            rw [hmr, if_neg hp]
            exact grp_mut (fun h => intsD_mut hkv9 h) hg9
    · rintro σ H2 ⟨⟨x3, x4, x5, x6, rfl⟩, s2, kvs, hkv, hg⟩
      rw [hl] at hg
      have hgl := grp_len hg
      walk_at "g"
      refine w_lockE hkv True.intro fun od => ?_
      have hg' : GrpV K (upd H2 D (.frz od (.dT kvs))) kvs (grpTo x m 6) := grp_mut (fun h => intsD_mut hkv h) hg
      have hl2 : (upd H2 D (.frz od (.dT kvs))) D = some (.frz od (.dT kvs)) := upd_same
      have lk : ∀ H3, Same (upd H2 D (.frz od (.dT kvs))) H3 → Same H2 (upd H3 D (.dT kvs)) := fun H3 s => lock_same hkv s
      generalize upd H2 D (.frz od (.dT kvs)) = HL at *
      walk_at "g"
      refine w_iKeys (w_var rfl ⟨D, od, rfl, .inr ⟨kvs, hl2, ?_⟩⟩)
      refine lc_data (K := K) (walk_keysT (kvs := kvs)) (by have := grpTo_len x m 6; omega) ((grpTo x m 6).map fun e => [grpD e]) (by simp [hgl]) (fun H' s => s _ _ hl2) ?_ ?_
      · rintro C j acc z G' G'' hC hj hacc hG' iv ⟨rfl, k, v, tq, hkj, rfl, htq⟩
        obtain ⟨e, he, rfl, hde⟩ := grp_at hg' hkj
        have kk : (e.1.map (Sum.inl : Int → Key)).map kV = e.1.map V.int := by
          rw [List.map_map]
          rfl
        have hvv : ∃ v', valV kvs (e.1.map Sum.inl) = some v' ∧ Dp K HL v' (intsD e.2) := by
          rcases grp_val (ps := e.1) hg' with ⟨e1, _⟩ | ⟨v', e1, e2⟩
          · exfalso
            have h1 : (kvs.any fun kv => decide (kv.1 = e.1.map Sum.inl)) = true := List.any_eq_true.mpr ⟨_, List.mem_of_getElem? hkj, by simp⟩
            rw [valV_any, e1] at h1
            cases h1
          · rw [lsOf_in (grpI x m 6).nd (List.mem_of_getElem? he)] at e2
            exact ⟨v', e1, e2⟩
        clear hde
        obtain ⟨v', hvv, hde⟩ := hvv
        walk_at "g"
        refine ⟨rfl, ?_⟩
        walk_at "g"
        refine w_dget (w_var rfl (w_var rfl (a_dgetT (.inr ⟨od, iv.1 _ _ hl2⟩) htq hvv ?_)))
        walk_at "g"
        refine w_newT (by simp) fun t1 H3 s3 nt1 ht1 => ?_
        walk_at "g"
        refine w_newT (by simp) fun t2 H4 s4 nt2 ht2 => ?_
        walk_at "g"
        refine w_newT (by simp) fun t3 H5 s5 nt3 ht3 => ?_
        have s35 := (s3.trans s4).trans s5
        refine lcd_nx hC (by have := grpTo_len x m 6; omega) hacc hG' iv s35 (d := grpD e) ?_ (by rw [flat_oneD]; exact grp_immAll _) (by rw [List.getElem?_map, he]; rfl)
        have htq5 := s35 _ _ htq
        rw [kk] at htq5
        exact .tup (tupOf ht3) (.cons (.str _) (.cons (.tup (tupOf (s5 _ _ (s4 _ _ ht1))) (.cons (.str _) (.cons (dp_s (iv.1.trans s35) hde) .nil))) (.cons (.tup (tupOf (s5 _ _ ht2)) (.cons (.str _) (.cons (.tup (tupOf htq5) (dpAll_ints _)) .nil))) .nil)))
      · intro C acc H3 hC s3 hC3 hacc
        rw [flat_oneD] at hacc
        have h3D := s3 _ _ hl2
        refine ⟨h3D, ?_⟩
        have hne : C ≠ D := fun z => by
          rw [z, hl2] at hC
          cases hC
        have sf := s2.trans (lk H3 s3)
        walk_at "g"
        have hcnt : 1 ≤ (grpTo x m 6).length := grpTo_pos hm hx
        refine ⟨C, acc, _, rfl, by rw [upd_ne hne]; exact hC3, dps_tups (tups_upd h3D True.intro) (grp_immAll _) hacc, by rw [List.length_map]; exact hcnt, by rw [List.length_map]; exact Nat.le_trans (grpTo_len x m 6) (by decide), fun u H4 s4 hu => ?_⟩
        exact q u H4 (sf.trans s4) hu
theorem ok_joined (T : Tx K mg) : Ok P w K mg base 3 "joined" ["shares"] (spJoined K) := by
  refine Ok.mk' T.G_joined T.F_joined (fun _ _ _ _ _ _ us hl => match us, hl with | [_], _ => rfl) sc_joined (fun vs H Q E h => ?_) (fun cdv A outer s H vs Q E hr h => ?_)
  · obtain ⟨v, d, rfl, hd, q1, q2⟩ := h
    rfl
  · obtain ⟨v, d, rfl, hd, q1, q2⟩ := h
    refine ⟨(tSeq (tIfS (tNot (tB (tCall (spIsShares K) [] E (tCons (tVar 0) tNil)))) (tRz K E "BadRules") tNext)
      (tSeq (tAsg tDNewK (gName 1))
      (tSeq (tFor (iList K (tVar 0)) (gName 2) (tFor (iList K (tVar 2)) (gName 3) (tIfS (tTest (tOp oGt (tVar 3) (tC (.int 0)))) (sDPut (tVar 1) (tVar 3) (tC (.bl true))) tNext)))
      (tRet (tCB (cTuple K) (tCons (tLc (iList K (tCB rSortDI (tCons (tVar 1) tNil))) (gName 3) tYes (tTup (tCons (tCall (spCondFor K) [] E0 (tCons (tVar 0) (tCons (tVar 3) tNil))) (tCons (tVar 3) tNil))) [3]) tNil)))))), (pss_cons (ps_if (pt_not (pt_val (pe_f (ok_is_shares T) hr (pnx (L2N.takes_of rfl rfl rfl rfl)) (pa_cons (pv 0) pa_nil)))) (pss_one (ps_rz T.X_BadRules (L2N.takes_of rfl rfl rfl rfl))) pss_nil)
      (pss_cons (ps_set (i := 1) sc_joined.nd rfl (by first | exact Or.inl rfl | exact Or.inr rfl) pe_dnewK)
      (pss_cons (ps_for (passes_of rfl) rfl (pi_list (pv 0)) (pg_name (i := 2) sc_joined.nd rfl (by first | exact Or.inl rfl | exact Or.inr rfl)) (pss_one (ps_for (passes_of rfl) rfl (pi_list (pv 2)) (pg_name (i := 3) sc_joined.nd rfl (by first | exact Or.inl rfl | exact Or.inr rfl)) (pss_one (ps_if (pt_cmpR op_gt (pv 3) pe_int (nomark _)) (pss_one (ps_dput (hu1 hr) (pv 1) (pv 3) pe_bl (by rfl))) pss_nil)))))
      (pss_one (ps_ret (pe_callTy call_tuple_of (by rfl) T.Z_tuple (by decide +kernel) (pa_cons (pe_lc (own := [("many", 3)]) rfl sc_joined.nd (pi_list (pe_callB (call_sortedDI rfl) (by rfl) T.Z_sorted (by decide +kernel) (pa_cons (pv 1) pa_nil))) (blkOk_by (own := [("many", 3)]) (N := ["shares", "found", "row", "many"]) (sc := defScope s_joined) (by decide +kernel)) (fun _ _ _ _ _ => (pg_name (i := 3) sc_joined.nd rfl (by first | exact Or.inl rfl | exact Or.inr rfl))) (fun _ _ _ _ _ => pts_nil) (fun _ _ _ _ _ => (pe_tup (pa_cons (pe_f (ok_condition_for T) hr pn0 (pa_cons (pv 0) (pa_cons (pv 3) pa_nil))) (pa_cons (pv 3) pa_nil))))) pa_nil))))))), ?_⟩
    walk_at "0"
    walk_at "g"
    refine ⟨v, d, rfl, hd, fun H1 s1 => ?_⟩
    walk_at "g"
    cases hS : isShares d with
    | false =>
      walk_at "g"
      exact q2 hS _ s1
    | true =>
      walk_at "g"
      obtain ⟨m, rfl, hm⟩ := isShares_inv hS
      have q1 := q1 m rfl hm
      have hd1 := dp_s s1 hd
      obtain ⟨a, xs, rfl, hs, ha⟩ := dp_list hd1
      have hl := dpAll_len ha
      rw [List.length_map, hm.six] at hl
      refine w_dnewK fun D H2 s2 nD hD => ?_
      walk_at "g"
      refine ⟨⟨_, s2.seq hs⟩, ?_⟩
      refine for_go (walk_list (K := K) (a := a) (xs := xs)) (fun i σ H' => (∃ x2 x3, σ = [some (.ref a), some (.ref D), x2, x3]) ∧ Same H1 H' ∧ ∃ (ks : List Int) (kvs : List (Key × V)), H' D = some (.dK kvs) ∧ kvs.map (·.1) = ks.map Sum.inl ∧ ks.Nodup ∧ (∀ x, x ∈ ks ↔ 0 < x ∧ ∃ r ∈ m.take i, x ∈ r) ∧ ks.length ≤ 4 * i)
        ⟨⟨_, _, rfl⟩, s2, [], [], hD, rfl, .nil, fun x => by simp, by simp⟩ (fun _ _ H' _ h => h.2.1.seq hs) ?_ ?_
      · rintro i y σ H3' H3 hi ⟨⟨x2, x3, rfl⟩, s3, ks, kvs, hkv, hks, hnd, hmem, hlen⟩ ⟨rfl, hyi⟩
        obtain ⟨e, he, hde⟩ := dpAll_getV ha hyi
        rw [List.getElem?_map] at he
        obtain ⟨r, hr, rfl⟩ := Option.map_eq_some_iff.mp he
        have hr4 := hm.four r (List.mem_of_getElem? hr)
        obtain ⟨b, ys, rfl, hb, hys⟩ := dp_list (dp_s s3 hde)
        have ey := dpAll_intsV hys
        subst ey
        walk_at "g"
        refine ⟨⟨_, hb⟩, ?_⟩
        refine for_go (walk_list (K := K) (a := b) (xs := r.map V.int)) (fun j σ H' => (∃ x3, σ = [some (.ref a), some (.ref D), some (.ref b), x3]) ∧ Same H1 H' ∧ SqL K H' b (r.map V.int) ∧ ∃ (ks : List Int) (kvs : List (Key × V)), H' D = some (.dK kvs) ∧ kvs.map (·.1) = ks.map Sum.inl ∧ ks.Nodup ∧ (∀ x, x ∈ ks ↔ 0 < x ∧ ((∃ r ∈ m.take i, x ∈ r) ∨ x ∈ r.take j)) ∧ ks.length ≤ 4 * i + j)
          ⟨⟨_, rfl⟩, s3, hb, ks, kvs, hkv, hks, hnd, fun x => by rw [hmem x]; simp, by omega⟩ (fun _ _ H' _ h => h.2.2.1) ?_ ?_
        · rintro j z σ H4' H4 hj ⟨⟨x3, rfl⟩, s4, hb4, ks, kvs, hkv, hks, hnd, hmem, hlen⟩ ⟨rfl, hzj⟩
          rw [List.getElem?_map] at hzj
          obtain ⟨x, hx, rfl⟩ := Option.map_eq_some_iff.mp hzj
          rw [List.length_map] at hj
          have htk : ∀ y, y ∈ r.take (j + 1) ↔ y ∈ r.take j ∨ y = x := fun y => by
            rw [List.take_add_one, hx]
            simp
          walk_at "g"
          refine if_b (fun hf => ?_) (fun hf => ?_)
          · have hf := of_decide_eq_true hf
            refine w_dput (w_c (w_var rfl (w_var rfl ?_)))
            have hkl : kvs.length = ks.length := by
              have := congrArg List.length hks
              simpa using this
            refine a_dputI hkv (by have := hm.six; omega) ?_
            walk_at "g"
            refine ⟨⟨_, rfl⟩, fun b' o eb => ?_, ?_, if x ∈ ks then ks else ks ++ [x], _, upd_same, put_keysI hks, ?_, fun y => ?_, ?_⟩
            · rw [upd_ne (ne_of_none eb nD)]
              exact s4 _ _ eb
            · rcases hb4 with (h | ⟨o, h⟩) | h
              · exact .inl (.inl (by rw [upd_ne (ne_of h hkv (by intro z; cases z))]; exact h))
              · exact .inl (.inr ⟨o, by rw [upd_ne (ne_of h hkv (by intro z; cases z))]; exact h⟩)
              · exact .inr h
            · split
              · exact hnd
              · rename_i hn
                rw [List.nodup_append]
                refine ⟨hnd, by simp, fun u hu w hw => ?_⟩
                cases List.mem_singleton.mp hw
                exact fun z => hn (z ▸ hu)
            · rw [htk y]
              have hy := hmem y
              split
              · rename_i hin
                rw [hy]
                constructor
                · rintro ⟨h0, h | h⟩
                  · exact ⟨h0, .inl h⟩
                  · exact ⟨h0, .inr (.inl h)⟩
                · rintro ⟨h0, h | h | h⟩
                  · exact ⟨h0, .inl h⟩
                  · exact ⟨h0, .inr h⟩
                  · subst h
                    exact hy.mp hin
              · rw [List.mem_append, List.mem_singleton, hy]
                constructor
                · rintro (⟨h0, h | h⟩ | h)
                  · exact ⟨h0, .inl h⟩
                  · exact ⟨h0, .inr (.inl h)⟩
                  · subst h
                    exact ⟨hf, .inr (.inr rfl)⟩
                · rintro ⟨h0, h | h | h⟩
                  · exact .inl ⟨h0, .inl h⟩
                  · exact .inl ⟨h0, .inr h⟩
                  · exact .inr h
            · split
              · omega
              · simp
                omega
          · have hf := of_decide_eq_false hf
            walk_at "g"
            refine ⟨⟨_, rfl⟩, s4, hb4, ks, kvs, hkv, hks, hnd, fun y => ?_, by omega⟩
            rw [htk y, hmem y]
            constructor
            · rintro ⟨h0, h | h⟩
              · exact ⟨h0, .inl h⟩
              · exact ⟨h0, .inr (.inl h)⟩
            · rintro ⟨h0, h | h | h⟩
              · exact ⟨h0, .inl h⟩
              · exact ⟨h0, .inr h⟩
              · omega
        · rintro σ H4 ⟨⟨x3, rfl⟩, s4, _, ks, kvs, hkv, hks, hnd, hmem, hlen⟩
          rw [List.length_map, hr4] at hlen
          rw [List.length_map, hr4] at hmem
          refine ⟨⟨_, _, rfl⟩, s4, ks, kvs, hkv, hks, hnd, fun x => ?_, by omega⟩
          rw [hmem x, List.take_of_length_le (by omega : r.length ≤ 4), List.take_add_one, hr]
          simp only [Option.toList_some, List.mem_append, List.mem_singleton]
          constructor
          · rintro ⟨h0, ⟨r', h1, h2⟩ | h⟩
            · exact ⟨h0, r', .inl h1, h2⟩
            · exact ⟨h0, r, .inr rfl, h⟩
          · rintro ⟨h0, r', h1 | h1, h2⟩
            · exact ⟨h0, .inl ⟨r', h1, h2⟩⟩
            · subst h1
              exact ⟨h0, .inr h2⟩
      · rintro σ H3 ⟨⟨x2, x3, rfl⟩, s3, ks, kvs, hkv, hks, hnd, hmem, hlen⟩
        rw [hl] at hlen
        rw [hl, List.take_of_length_le (by rw [hm.six]; exact Nat.le_refl _)] at hmem
        walk_at "g"
        refine ⟨D, kvs, ks, rfl, .inl hkv, hks, by omega, fun vals P pm ple nP => ?_⟩
        have s4 : Same H3 (upd H3 P (.lst (vals.map V.int))) := Same.new nP
        have hP : (upd H3 P (.lst (vals.map V.int))) P = some (.lst (vals.map V.int)) := upd_same
        generalize upd H3 P (.lst (vals.map V.int)) = H4 at *
        have hv : ValsOf m vals := ⟨lt_of_le_nd ple (pm.nodup_iff.mpr hnd), fun x => by rw [pm.mem_iff, hmem x]⟩
        have hvl : vals.length ≤ 24 := by rw [pm.length_eq]; omega
        have hd4 := dp_s (s3.trans s4) hd1
        walk_at "g"
        refine ⟨⟨_, lstOf hP⟩, ?_⟩
        refine lc_data (K := K) (walk_list (K := K) (a := P) (xs := vals.map V.int)) (by rw [List.length_map]; omega) (vals.map fun x => [PyData.tuple [condFor m x, .int x]]) (by simp) (fun H' s => lstOf (s _ _ hP)) ?_ ?_
        · rintro C j acc z G' G'' hC hj hacc hG' iv ⟨rfl, hzj⟩
          rw [List.getElem?_map] at hzj
          obtain ⟨x, hx, rfl⟩ := Option.map_eq_some_iff.mp hzj
          rw [List.length_map] at hj
          walk_at "g"
          refine ⟨rfl, ?_⟩
          walk_at "g"
          refine ⟨.ref a, m, x, rfl, dp_s iv.1 hd4, hm, hv.at (List.mem_of_getElem? hx), fun u H5 s5 hu => ?_⟩
          walk_at "g"
          refine w_newT (by simp) fun t H6 s6 nt ht => ?_
          exact lcd_nx hC (by omega) hacc hG' iv (s5.trans s6) (d := .tuple [condFor m x, .int x]) (.tup (tupOf ht) (.cons (dp_s s6 hu) (.cons (.int x) .nil))) (by rw [flat_oneD]; exact hv.imm hm) (by rw [List.getElem?_map, hx]; rfl)
        · intro C acc H5 hC s5 hC5 hacc
          rw [flat_oneD] at hacc
          walk_at "g"
          refine w_tupleD (lstOf hC5) hacc fun u H6 s6 _ hu => ?_
          exact q1 vals (.ref u) H6 ((((s1.trans s3).trans s4).trans s5).trans s6) hv hu
theorem ok__law_cell (T : Tx K mg) : Ok P w K mg base 1 "_law_cell" ["script", "k"] (spCell K) := by
  refine Ok.mk' T.G__law_cell T.F__law_cell (fun _ _ _ _ _ _ us hl => match us, hl with | [_, _], _ => rfl) sc__law_cell (fun vs H Q E h => ?_) (fun cdv A outer s H vs Q E hr h => ?_)
  · obtain ⟨a, k, ns, rfl, hS, hl, hk, hk2, q⟩ := h
    rfl
  · obtain ⟨a, k, ns, rfl, hS, hl, hk, hk2, q⟩ := h
    refine ⟨(tSeq (tIfS (tTest (tOp (rEqD K) (tVar 0) (tLst tNil))) (tRet (tOp oMul (tVar 1) (tC (.int 7919)))) tNext)
      (tRet (tOp oAdd (tOp (rIxL K) (tVar 0) (tOp oMod (tVar 1) (tCB (cLen K) (tCons (tVar 0) tNil)))) (tOp oMul (tOp oDiv (tVar 1) (tCB (cLen K) (tCons (tVar 0) tNil))) (tC (.int 104729)))))), (pss_cons (ps_if (pt_cmpR (op_eqD hr.units) (pv 0) (pe_lst pa_nil) (nomark _)) (pss_one (ps_ret (pe_op op_mul (pv 1) pe_int))) pss_nil)
      (pss_one (ps_ret (pe_op op_add (pe_ix ix_list (pv 0) (pe_op op_mod (pv 1) (pe_callB call_len (by rfl) T.Z_len (by decide +kernel) (pa_cons (pv 0) pa_nil))) (fun _ _ => rfl)) (pe_op op_mul (pe_op op_fdivW (pv 1) (pe_callB call_len (by rfl) T.Z_len (by decide +kernel) (pa_cons (pv 0) pa_nil))) pe_int))))), ?_⟩
    walk_at "0"
    walk_at "g"
    refine ⟨Nat.zero_le _, fun p np => ?_⟩
    have s1 : Same H (upd H p (.lst [])) := Same.new np
    refine w_eqD (dp_ints (s1.seq hS)) (.lst (lstOf upd_same) .nil) (shaped_ints ns) (by rfl) ?_
    walk_at "g"
    refine if_b (fun h => ?_) (fun h => ?_)
    · walk_at "g"
      refine w_I (.inr ⟨by decide, by decide⟩) ?_
      exact q _ _ s1
    · have hn : 0 < ns.length := by
        cases ns with
        | nil => simp [PyData.eqv, PyData.eqvAll] at h
        | cons x r => simp
      walk_at "g"
      refine w_lenL (s1.seq hS) ?_
      simp only [List.length_map]
      refine w_I (by omega) ?_
      obtain ⟨z, hz⟩ := atI_ints (ns := ns) (j := k % (ns.length : Nat)) (Int.emod_nonneg _ (by omega)) (Int.emod_lt_of_pos _ (by omega))
      refine w_ixL (s1.seq hS) hz ?_
      walk_at "g"
      refine w_lenL (s1.seq hS) ?_
      simp only [List.length_map]
      refine w_I (divW (by omega) (by omega)) ?_
      walk_at "g"
      refine w_I (.inr ⟨by decide, by decide⟩) ?_
      walk_at "g"
      exact q _ _ s1
theorem ok__law_drawn (T : Tx K mg) : Ok P w K mg base 1 "_law_drawn" ["cell", "k"] (spDrawn) := by
  refine Ok.mk' T.G__law_drawn T.F__law_drawn (fun _ _ _ _ _ _ us hl => match us, hl with | [_, _], _ => rfl) sc__law_drawn (fun vs H Q E h => ?_) (fun cdv A outer s H vs Q E hr h => ?_)
  · obtain ⟨c, k, rfl, q⟩ := h
    rfl
  · obtain ⟨c, k, rfl, q⟩ := h
    refine ⟨(tSeq (tAsg (tOp oMod (tOp oAdd (tOp oMul (tVar 0) (tC (.int 6364136223846793005))) (tOp oMul (tOp oAdd (tVar 1) (tC (.int 1))) (tC (.int 1442695040888963407)))) (tC (.int 340282366920938463463374607431768211507))) (gName 2))
      (tSeq (tAsg (tOp oMod (tOp oMulW (tVar 2) (tVar 2)) (tC (.int 340282366920938463463374607431768211297))) (gName 2))
      (tSeq (tAsg (tOp oMulW (tOp oMulW (tOp oAdd (tOp oMod (tVar 2) (tC (.int 18446744073709551557))) (tC (.int 1))) (tOp oAdd (tOp oDiv (tVar 2) (tC (.int 18446744073709551557))) (tC (.int 1)))) (tVar 2)) (gName 2))
      (tRet (tOp oMod (tVar 2) (tC (.int 340282366920938463463374607431768211507))))))), (pss_cons (ps_set (i := 2) sc__law_drawn.nd rfl (by first | exact Or.inl rfl | exact Or.inr rfl) (pe_op op_mod (pe_op op_add (pe_op op_mul (pv 0) pe_int) (pe_op op_mul (pe_op op_add (pv 1) pe_int) pe_int)) pe_int))
      (pss_cons (ps_set (i := 2) sc__law_drawn.nd rfl (by first | exact Or.inl rfl | exact Or.inr rfl) (pe_op op_mod (pe_op op_mulW (pv 2) (pv 2)) pe_int))
      (pss_cons (ps_set (i := 2) sc__law_drawn.nd rfl (by first | exact Or.inl rfl | exact Or.inr rfl) (pe_op op_mulW (pe_op op_mulW (pe_op op_add (pe_op op_mod (pv 2) pe_int) pe_int) (pe_op op_add (pe_op op_fdivW (pv 2) pe_int) pe_int)) (pv 2)))
      (pss_one (ps_ret (pe_op op_mod (pv 2) pe_int)))))), ?_⟩
    walk_at "0"
    walk_at "g"
    refine w_I (.inr ⟨by decide, by decide⟩) ?_
    walk_at "g"
    refine w_I (.inr ⟨by decide, by decide⟩) ?_
    walk_at "g"
    refine w_I (by decide) ?_
    generalize hm : (c * 6364136223846793005 + (k + 1) * 1442695040888963407) % 340282366920938463463374607431768211507 = m
    have m0 : 0 ≤ m := by
      rw [← hm]
      exact Int.emod_nonneg _ (by decide)
    have m1 : m < 340282366920938463463374607431768211507 := by
      rw [← hm]
      exact Int.emod_lt_of_pos _ (by decide)
    walk_at "g"
    refine w_I (mulW m0 (by omega) m0 (by omega)) ?_
    walk_at "g"
    refine w_I (by decide) ?_
    generalize hn : m * m % 340282366920938463463374607431768211297 = n
    have n0 : 0 ≤ n := by
      rw [← hn]
      exact Int.emod_nonneg _ (by decide)
    have n1 : n < 340282366920938463463374607431768211297 := by
      rw [← hn]
      exact Int.emod_lt_of_pos _ (by decide)
    walk_at "g"
    refine w_I (by decide) ?_
    generalize ha : n % 18446744073709551557 = a
    have a0 : 0 ≤ a := by
      rw [← ha]
      exact Int.emod_nonneg _ (by decide)
    have a1 : a < 18446744073709551557 := by
      rw [← ha]
      exact Int.emod_lt_of_pos _ (by decide)
    walk_at "g"
    refine w_I (divW (by decide) (by decide)) ?_
    generalize hb : n / 18446744073709551557 = b
    have b0 : 0 ≤ b := by
      rw [← hb]
      exact Int.ediv_nonneg n0 (by decide)
    have b1 : b ≤ n := by
      rw [← hb]
      exact Int.ediv_le_self _ n0
    walk_at "g"
    refine w_I (mulW (by omega) (by omega) (by omega) (by omega)) ?_
    have c1 : 0 ≤ (a + 1) * (b + 1) := Int.mul_nonneg (by omega) (by omega)
    have c2 : (a + 1) * (b + 1) ≤ 18446744073709551557 * 340282366920938463463374607431768211297 := Int.mul_le_mul (by omega) (by omega) (by omega) (by decide)
    generalize (a + 1) * (b + 1) = c' at c1 c2
    walk_at "g"
    refine w_I (mulW c1 (by omega) (by omega) (by omega)) ?_
    walk_at "g"
    refine w_I (by decide) ?_
    exact q _ (Int.emod_nonneg _ (by decide))
theorem ok__law_roll (T : Tx K mg) : Ok P w K mg base 2 "_law_roll" ["dice", "many"] (spRoll) := by
  refine Ok.mk' T.G__law_roll T.F__law_roll (fun _ _ _ _ _ _ us hl => match us, hl with | [_, _], _ => rfl) sc__law_roll (fun vs H Q E h => ?_) (fun cdv A outer s H vs Q E hr h => ?_)
  · obtain ⟨a, m, rfl, hd, m0, m1, q⟩ := h
    rfl
  · obtain ⟨a, m, rfl, hd, m0, m1, q⟩ := h
    refine ⟨(tSeq (tIfS (tTest (tOp oGe (tOp (rIxL K) (tVar 0) (tC (.int 0))) (tOp oPow (tC (.int 10)) (tC (.int 18))))) (tSeq (tAsg (tOp oMod (tOp (rIxL K) (tVar 0) (tC (.int 0))) (tVar 1)) (gName 2))
      (tSeq (tAsg (tOp oDiv (tOp (rIxL K) (tVar 0) (tC (.int 0))) (tVar 1)) (gSub (tVar 0) (tC (.int 0)) rSetL))
      (tRet (tVar 2)))) tNext)
      (tSeq (tAsg (tOp oAdd (tOp (rIxL K) (tVar 0) (tC (.int 1))) (tC (.int 1))) (gSub (tVar 0) (tC (.int 1)) rSetL))
      (tRet (tOp oMod (tOp oDiv (tCall (spDrawn) [] E (tCons (tOp (rIxL K) (tVar 0) (tC (.int 0))) (tCons (tOp (rIxL K) (tVar 0) (tC (.int 1))) tNil))) (tC (.int 8))) (tVar 1))))), (pss_cons (ps_if (pt_cmpR op_ge (pe_ix ix_list (pv 0) pe_int (fun _ _ => rfl)) (pe_op op_pow pe_int pe_int) (nomark _)) (pss_cons (ps_set (i := 2) sc__law_roll.nd rfl (by first | exact Or.inl rfl | exact Or.inr rfl) (pe_op op_mod (pe_ix ix_list (pv 0) pe_int (fun _ _ => rfl)) (pv 1)))
      (pss_cons (ps_asg (pe_op op_fdivW (pe_ix ix_list (pv 0) pe_int (fun _ _ => rfl)) (pv 1)) (pg_sub (pv 0) pe_int set_list))
      (pss_one (ps_ret (pv 2))))) pss_nil)
      (pss_cons (ps_asg (pe_op op_add (pe_ix ix_list (pv 0) pe_int (fun _ _ => rfl)) pe_int) (pg_sub (pv 0) pe_int set_list))
      (pss_one (ps_ret (pe_op op_mod (pe_op op_fdivW (pe_f (ok__law_drawn T) hr (pnx (L2N.takes_of rfl rfl rfl rfl)) (pa_cons (pe_ix ix_list (pv 0) pe_int (fun _ _ => rfl)) (pa_cons (pe_ix ix_list (pv 0) pe_int (fun _ _ => rfl)) pa_nil))) pe_int) (pv 1)))))), ?_⟩
    walk_at "0"
    obtain ⟨x, k, hx⟩ := hd
    have hd : Dice H a := ⟨x, k, hx⟩
    walk_at "g"
    refine w_ixL (lstOf hx) (v := .int x) rfl ?_
    walk_at "g"
    refine w_I ⟨by decide, by decide, by decide⟩ ?_
    walk_at "g"
    refine if_b (fun h => ?_) (fun h => ?_)
    · walk_at "g"
      refine w_ixL (lstOf hx) (v := .int x) rfl ?_
      walk_at "g"
      refine w_I m0 ?_
      walk_at "g"
      refine w_ixL (lstOf hx) (v := .int x) rfl ?_
      walk_at "g"
      refine w_I (divW m0 m1) ?_
      walk_at "g"
      refine w_setL hx (j := 0) rfl ?_
      walk_at "g"
      exact q _ _ (Int.emod_nonneg _ (by omega)) (Int.emod_lt_of_pos _ m0) (But.put hd)
    · walk_at "g"
      refine w_ixL (lstOf hx) (v := .int k) rfl ?_
      walk_at "g"
      refine w_setL hx (j := 1) rfl ?_
      walk_at "g"
      have h2 : upd H a (.lst [.int x, .int (k + 1)]) a = some (.lst [.int x, .int (k + 1)]) := upd_same
      refine w_ixL (lstOf h2) (v := .int x) rfl ?_
      walk_at "g"
      refine w_ixL (lstOf h2) (v := .int (k + 1)) rfl ?_
      walk_at "g"
      refine ⟨x, k + 1, rfl, fun z hz => ?_⟩
      walk_at "g"
      refine w_I (divW (by decide) (by decide)) ?_
      walk_at "g"
      refine w_I m0 ?_
      exact q _ _ (Int.emod_nonneg _ (by omega)) (Int.emod_lt_of_pos _ m0) (But.put hd)
theorem ok__law_rounds (T : Tx K mg) : Ok P w K mg base 2 "_law_rounds" ["script", "most"] (spRounds K) := by
  refine Ok.mk' T.G__law_rounds T.F__law_rounds (fun _ _ _ _ _ _ us hl => match us, hl with | [_, _], _ => rfl) sc__law_rounds (fun vs H Q E h => ?_) (fun cdv A outer s H vs Q E hr h => ?_)
  · obtain ⟨a, m, ns, rfl, hS, hl, m0, m1, q⟩ := h
    rfl
  · obtain ⟨a, m, ns, rfl, hS, hl, m0, m1, q⟩ := h
    refine ⟨(tRet (tLc (iRng1 (tCons (tCB cMax2 (tCons (tC (.int 1)) (tCons (tCB cMin2 (tCons (tVar 1) (tCons (tCB (cLen K) (tCons (tVar 0) tNil)) tNil))) tNil))) tNil)) (gName 2) tYes (tLst (tCons (tCall (spCell K) [] E0 (tCons (tVar 0) (tCons (tVar 2) tNil))) (tCons (tC (.int 0)) tNil))) [2])), (pss_one (ps_ret (pe_lc (own := [("k", 2)]) rfl sc__law_rounds.nd (pi_range1 (by rfl) T.Z_range (pa_cons (pe_callB (call_max2 rfl) (by rfl) T.Z_max (by decide +kernel) (pa_cons pe_int (pa_cons (pe_callB (call_min2 rfl) (by rfl) T.Z_min (by decide +kernel) (pa_cons (pv 1) (pa_cons (pe_callB call_len (by rfl) T.Z_len (by decide +kernel) (pa_cons (pv 0) pa_nil)) pa_nil))) pa_nil))) pa_nil)) (blkOk_by (own := [("k", 2)]) (N := ["script", "most", "k"]) (sc := defScope s__law_rounds) (by decide +kernel)) (fun _ _ _ _ _ => (pg_name (i := 2) sc__law_rounds.nd rfl (by first | exact Or.inl rfl | exact Or.inr rfl))) (fun _ _ _ _ _ => pts_nil) (fun _ _ _ _ _ => (pe_lst (pa_cons (pe_f (ok__law_cell T) hr pn0 (pa_cons (pv 0) (pa_cons (pv 2) pa_nil))) (pa_cons pe_int pa_nil))))))), ?_⟩
    walk_at "0"
    walk_at "g"
    refine w_lenL hS ?_
    simp only [List.length_map]
    walk_at "g"
    generalize hj : (if (if (ns.length : Int) < m then (ns.length : Int) else m) > 1 then (if (ns.length : Int) < m then (ns.length : Int) else m) else 1) = j
    have j0 : 1 ≤ j := by
      rw [← hj]
      split <;> omega
    have j1 : j ≤ 10 := by
      rw [← hj]
      split
      · split <;> omega
      · omega
    refine ⟨by omega, by omega, ?_⟩
    refine lc_go walk_range (by omega) (fun D i acc H' => Same H H' ∧ ∃ ds : List Addr, acc = ds.map V.ref ∧ ∀ d ∈ ds, H d = none ∧ d ≠ D ∧ Dice H' d) (fun D hD => ⟨Same.new hD, [], rfl, fun _ h => by cases h⟩) (fun _ _ _ _ _ _ _ => trivial) ?_ ?_
    · rintro D i acc x H' H'' hD hi hacc hH' ⟨sm, ds, rfl, hds⟩ ⟨rfl, rfl⟩
      walk_at "g"
      refine ⟨rfl, ?_⟩
      walk_at "g"
      refine ⟨_, _, ns, rfl, sm.seq hS, hl, by omega, by omega, fun z H2 s2 => ?_⟩
      walk_at "g"
      refine ⟨sz (by simp), fun p np => ?_⟩
      have s3 : Same H2 (upd H2 p (.lst [.int z, .int 0])) := Same.new np
      have hD3 := s3 _ _ (s2 _ _ hH')
      have npD : p ≠ D := (ne_of_none (s2 _ _ hH') np).symm
      have s5 : ∀ b o, H b = some o → upd (upd H2 p (.lst [.int z, .int 0])) D (.lst (ds.map V.ref ++ [.ref p])) b = some o := fun b o e => by
        rw [upd_ne (ne_of_none e hD)]
        exact s3 _ _ (s2 _ _ (sm _ _ e))
      refine lc_nx (by omega) hacc hD3 ⟨s5, ds ++ [p], by simp, fun d hd => ?_⟩
      rcases List.mem_append.mp hd with hd | hd
      · obtain ⟨e1, e2, e3⟩ := hds d hd
        obtain ⟨x, k, e3⟩ := e3
        exact ⟨e1, e2, x, k, by rw [upd_ne e2]; exact s3 _ _ (s2 _ _ e3)⟩
      · cases List.mem_singleton.mp hd
        exact ⟨sm.free (s2.free np), npD, z, 0, by rw [upd_ne npD]; exact upd_same⟩
    · rintro D acc H' hD hH' hl' ⟨sm, ds, rfl, hds⟩
      exact q D ds H' sm hH' hds hD
theorem ok__law_row (T : Tx K mg) : Ok P w K mg base 3 "_law_row" ["dice", "most"] (spLawRow K) := by
  refine Ok.mk' T.G__law_row T.F__law_row (fun _ _ _ _ _ _ us hl => match us, hl with | [_, _], _ => rfl) sc__law_row (fun vs H Q E h => ?_) (fun cdv A outer s H vs Q E hr h => ?_)
  · obtain ⟨a, m, rfl, hd, m0, m1, q⟩ := h
    rfl
  · obtain ⟨a, m, rfl, hd, m0, m1, q⟩ := h
    refine ⟨(tSeq (tAsg (tLc (iRng1 (tCons (tVar 1) tNil)) (gName 2) (tTest (tOp rEq (tCall (spRoll) [] E0 (tCons (tVar 0) (tCons (tC (.int 2)) tNil))) (tC (.int 0)))) (tVar 2) [2]) (gName 3))
      (tRet (tIf (tTest (tOp (rNeD K) (tVar 3) (tLst tNil))) (tCB (cTuple K) (tCons (tVar 3) tNil)) (tTup (tCons (tCall (spRoll) [] E (tCons (tVar 0) (tCons (tVar 1) tNil))) tNil))))), (pss_cons (ps_setLc (i := 3) (own := [("at", 2)]) rfl sc__law_row.nd rfl rfl (sw_true rfl rfl rfl (by decide +kernel)) (pi_range1 (by rfl) T.Z_range (pa_cons (pv 1) pa_nil)) (blkOk_by (own := [("at", 2)]) (N := ["dice", "most", "at", "found"]) (sc := defScope s__law_row) (by decide +kernel)) (fun _ _ _ _ _ => (pg_name (i := 2) sc__law_row.nd rfl (by first | exact Or.inl rfl | exact Or.inr rfl))) (fun _ _ _ _ _ => (pts_one (pt_cmpR op_eq (pe_f (ok__law_roll T) hr pn0 (pa_cons (pv 0) (pa_cons pe_int pa_nil))) pe_int (nomark _)))) (fun _ _ _ _ _ => (pv 2)))
      (pss_one (ps_ret (pe_ifExp (pt_cmpR (op_neD hr.units) (pv 3) (pe_lst pa_nil) (nomark _)) (pe_callTy call_tuple_of (by rfl) T.Z_tuple (by decide +kernel) (pa_cons (pv 3) pa_nil)) (pe_tup (pa_cons (pe_f (ok__law_roll T) hr (pnx (L2N.takes_of rfl rfl rfl rfl)) (pa_cons (pv 0) (pa_cons (pv 1) pa_nil))) pa_nil)))))), ?_⟩
    walk_at "0"
    walk_at "g"
    refine ⟨by omega, by omega, ?_⟩
    refine lc_dice (K := K) (a := a) walk_range (by omega) (fun i ds => ∃ ns : List Int, ds = ns.map PyData.int ∧ ns.length ≤ i ∧ ns.Pairwise (· < ·) ∧ ∀ j ∈ ns, 0 ≤ j ∧ j < i) hd ⟨[], rfl, Nat.le_refl _, .nil, fun _ h => by cases h⟩ (fun _ _ => trivial) ?_ ?_
    · rintro D i acc x H' H'' hD hi hacc hH' ⟨bb, nD, ds, hds, im, ns, rfl, hl, hp, hr0⟩ ⟨rfl, rfl⟩
      walk_at "g"
      refine ⟨rfl, ?_⟩
      walk_at "g"
      refine ⟨a, 2, rfl, bb.d1, by decide, by decide, fun r H1 r0 r1 b1 => ?_⟩
      walk_at "g"
      refine if_b (fun _ => ?_) (fun _ => ?_)
      · walk_at "g"
        refine lcr_nx (d := .int (0 + (i : Int))) hD (by omega) hacc hH' bb nD hds im b1 (.int _) rfl ⟨ns ++ [0 + (i : Int)], by simp, by simp; omega, ?_, fun j hj => ?_⟩
        · refine List.pairwise_append.mpr ⟨hp, by simp, fun x hx y hy => ?_⟩
          cases List.mem_singleton.mp hy
          have := hr0 x hx
          omega
        · rcases List.mem_append.mp hj with hj | hj
          · have := hr0 j hj
            omega
          · cases List.mem_singleton.mp hj
            omega
      · exact lcr_sk hacc hH' bb nD hds im b1 ⟨ns, rfl, by omega, hp, fun j hj => by have := hr0 j hj; omega⟩
    · rintro D acc ds H1 hD b1 nD hD1 hds im ⟨ns, rfl, hl, hp, hr0⟩
      cases dpAll_some_ints hds
      walk_at "g"
      refine ⟨Nat.zero_le _, fun p np => ?_⟩
      have s1 : Same H1 (upd H1 p (.lst [])) := Same.new np
      refine w_neD (dp_ints (lstOf (s1 _ _ hD1))) (.lst (lstOf upd_same) .nil) (shaped_ints ns) (by rfl) ?_
      generalize upd H1 p (.lst []) = H2 at *
      rw [eqv_nil]
      walk_at "g"
      have b2 := b1.same s1
      cases ns with
      | cons n r =>
        walk_at "g"
        refine ⟨_, _, rfl, .inl ⟨lstOf (s1 _ _ hD1), fun t nt => ?_⟩⟩
        exact q t (n :: r) _ (b2.new nt) (b2.free nt) upd_same (by omega) (isRow_mk (by simp) hp fun i hi => by have := hr0 i hi; omega)
      | nil =>
        walk_at "g"
        refine ⟨a, m, rfl, b2.d1, by omega, by omega, fun r H3 r0 r1 b3 => ?_⟩
        walk_at "g"
        refine ⟨sz (by simp), fun t nt => ?_⟩
        have b4 := b2.trans b3
        exact q t [r] _ (b4.new nt) (b4.free nt) upd_same (by simp) (isRow_mk (by simp) (by simp) fun i hi => by cases List.mem_singleton.mp hi; omega)
theorem okr__law_condition (T : Tx K mg) : ∀ n : Nat, Ok P w K mg base (4 + n) "_law_condition" ["dice", "deep"] (spLCondR K n) := by
  intro n
  induction n with
  | zero =>
    refine (Ok.bot T.G__law_condition T.F__law_condition (fun _ _ _ _ _ _ us hl => match us, hl with | [_, _], _ => rfl)).imp (fun vs H Q E h => ?_)
    obtain ⟨a, k, rfl, k0, hk, hn, hd, q⟩ := h
    omega
  | succ n ih =>
  refine Ok.mk' (k := 4 + n) T.G__law_condition T.F__law_condition (fun _ _ _ _ _ _ us hl => match us, hl with | [_, _], _ => rfl) sc__law_condition (fun vs H Q E h => ?_) (fun cdv A outer s H vs Q E hr h => ?_)
  · obtain ⟨a, k, rfl, k0, hk, hn, hd, q⟩ := h
    rfl
  · obtain ⟨a, k, rfl, k0, hk, hn, hd, q⟩ := h
    refine ⟨(tSeq (tAsg (tCall (spRoll) [] E (tCons (tVar 0) (tCons (tC (.int 7)) tNil))) (gName 2))
      (tSeq (tIfS (tOr (tTest (tOp oLt (tVar 1) (tC (.int 2)))) (tTest (tOp oLt (tVar 2) (tC (.int 3))))) (tSeq (tAsg (tOp (rIxL K) (tLst (tCons (tC (.str "land")) (tCons (tC (.str "plan")) tNil))) (tCall (spRoll) [] E (tCons (tVar 0) (tCons (tC (.int 2)) tNil)))) (gName 3))
      (tRet (tTup (tCons (tVar 3) (tCons (tCall (spLawRow K) [] E (tCons (tVar 0) (tCons (tIf (tTest (tOp rEq (tVar 3) (tC (.str "land")))) (tC (.int 6)) (tC (.int 4))) tNil))) tNil))))) tNext)
      (tSeq (tIfS (tTest (tOp rEq (tVar 2) (tC (.int 3)))) (tRet (tTup (tCons (tC (.str "not")) (tCons (tCall (spLCondR K n) [] E (tCons (tVar 0) (tCons (tOp oSub (tVar 1) (tC (.int 1))) tNil))) tNil)))) tNext)
      (tSeq (tAsg (tOp oAdd (tC (.int 2)) (tOp oMul (tOp oDiv (tCall (spRoll) [] E (tCons (tVar 0) (tCons (tC (.int 3)) tNil))) (tC (.int 2))) (tCB cInt1 (tCons (tOp oLt (tVar 1) (tC (.int 4))) tNil)))) (gName 4))
      (tRet (tOp (rCatT K) (tTup (tCons (tOp (rIxL K) (tLst (tCons (tC (.str "and")) (tCons (tC (.str "or")) tNil))) (tOp oMod (tVar 2) (tC (.int 2)))) tNil)) (tCB (cTuple K) (tCons (tLc (iRng1 (tCons (tVar 4) tNil)) (gName 5) tYes (tCall (spLCondR K n) [] E0 (tCons (tVar 0) (tCons (tOp oSub (tVar 1) (tC (.int 1))) tNil))) [5]) tNil)))))))), (pss_cons (ps_set (i := 2) sc__law_condition.nd rfl (by first | exact Or.inl rfl | exact Or.inr rfl) (pe_f (ok__law_roll T) hr (pnx (L2N.takes_of rfl rfl rfl rfl)) (pa_cons (pv 0) (pa_cons pe_int pa_nil))))
      (pss_cons (ps_if (PW.pt (pw_or (pt_cmpR op_lt (pv 1) pe_int (nomark _)) (pw_or1 (pt_cmpR op_lt (pv 2) pe_int (nomark _))))) (pss_cons (ps_set (i := 3) sc__law_condition.nd rfl (by first | exact Or.inl rfl | exact Or.inr rfl) (pe_ix ix_list (pe_lst (pa_cons pe_str (pa_cons pe_str pa_nil))) (pe_f (ok__law_roll T) hr (pnx (L2N.takes_of rfl rfl rfl rfl)) (pa_cons (pv 0) (pa_cons pe_int pa_nil))) (fun _ _ => rfl)))
      (pss_one (ps_ret (pe_tup (pa_cons (pv 3) (pa_cons (pe_f (ok__law_row T) hr (pnx (L2N.takes_of rfl rfl rfl rfl)) (pa_cons (pv 0) (pa_cons (pe_ifExp (pt_cmpR op_eq (pv 3) pe_str (nomark _)) pe_int pe_int) pa_nil))) pa_nil)))))) pss_nil)
      (pss_cons (ps_if (pt_cmpR op_eq (pv 2) pe_int (nomark _)) (pss_one (ps_ret (pe_tup (pa_cons pe_str (pa_cons (pe_f ih hr (pnx (L2N.takes_of rfl rfl rfl rfl)) (pa_cons (pv 0) (pa_cons (pe_op op_sub (pv 1) pe_int) pa_nil))) pa_nil))))) pss_nil)
      (pss_cons (ps_set (i := 4) sc__law_condition.nd rfl (by first | exact Or.inl rfl | exact Or.inr rfl) (pe_op op_add pe_int (pe_op op_mul (pe_op op_fdivW (pe_f (ok__law_roll T) hr (pnx (L2N.takes_of rfl rfl rfl rfl)) (pa_cons (pv 0) (pa_cons pe_int pa_nil))) pe_int) (pe_callTy call_int1 (by rfl) T.Z_int (by decide +kernel) (pa_cons (pe_cmpR op_lt (pv 1) pe_int (nomark _)) pa_nil)))))
      (pss_one (ps_ret (pe_op op_catT (pe_tup (pa_cons (pe_ix ix_list (pe_lst (pa_cons pe_str (pa_cons pe_str pa_nil))) (pe_op op_mod (pv 2) pe_int) (fun _ _ => rfl)) pa_nil)) (pe_callTy call_tuple_of (by rfl) T.Z_tuple (by decide +kernel) (pa_cons (pe_lc (own := [("turn", 5)]) rfl sc__law_condition.nd (pi_range1 (by rfl) T.Z_range (pa_cons (pv 4) pa_nil)) (blkOk_by (own := [("turn", 5)]) (N := ["dice", "deep", "way", "word", "parts", "turn"]) (sc := defScope s__law_condition) (by decide +kernel)) (fun _ _ _ _ _ => (pg_name (i := 5) sc__law_condition.nd rfl (by first | exact Or.inl rfl | exact Or.inr rfl))) (fun _ _ _ _ _ => pts_nil) (fun _ _ _ _ _ => (pe_f ih hr pn0 (pa_cons (pv 0) (pa_cons (pe_op op_sub (pv 1) pe_int) pa_nil))))) pa_nil))))))))), ?_⟩
    walk_at "0"
    walk_at "g"
    refine ⟨a, 7, rfl, hd, by decide, by decide, fun way H1 w0 w1 b1 => ?_⟩
    walk_at "s"
    refine evt_use (b := decide ((k : Int) < 2) || decide (way < 3)) (evt_or ?_ fun _ H2 s2 => ?_) fun H2 s2 => ?_
    · intro Q' q'
      walk_at "g"
      exact q' _ (Same.refl _)
    · intro Q' q'
      walk_at "g"
      exact q' _ (Same.refl _)
    have b2 := b1.same s2
    refine if_b (fun hc => ?_) (fun hc => ?_)
    · walk_at "g"
      refine ⟨sz (by simp), fun p np => ?_⟩
      have b3 := b2.new (o := .lst [.str "land", .str "plan"]) np
      walk_at "g"
      refine ⟨a, 2, rfl, b3.d1, by decide, by decide, fun r H3 r0 r1 b4 => ?_⟩
      have hp := b4.kp p _ upd_same (b2.d1.ne np)
      obtain ⟨z, hz, hz2⟩ := atI_twoS (a := "land") (b := "plan") r0 r1
      refine w_ixL (lstOf hp) hz ?_
      walk_at "g"
      have bT := b3.trans b4
      by_cases hl : z = "land"
      · refine if_t (decide_eq_true hl) ?_
        walk_at "g"
        refine ⟨a, 6, rfl, bT.d1, by decide, by decide, fun t ns H4 b5 nt ht hln hrow => ?_⟩
        walk_at "g"
        refine ⟨sz (by simp), fun t2 nt2 => ?_⟩
        exact q _ _ _ ((bT.trans b5).new nt2) (.tup (tupOf upd_same) (.cons (.str z) (.cons (.tup (tup_s (Same.new nt2) (tupOf ht)) (dpAll_ints ns)) .nil))) (condG_leaf k0 (.inl ⟨hl, rfl⟩) hln hrow)
      · refine if_f (decide_eq_false hl) ?_
        have hpl : z = "plan" := by
          rcases hz2 with e | e
          · exact absurd e hl
          · exact e
        walk_at "g"
        refine ⟨a, 4, rfl, bT.d1, by decide, by decide, fun t ns H4 b5 nt ht hln hrow => ?_⟩
        walk_at "g"
        refine ⟨sz (by simp), fun t2 nt2 => ?_⟩
        exact q _ _ _ ((bT.trans b5).new nt2) (.tup (tupOf upd_same) (.cons (.str z) (.cons (.tup (tup_s (Same.new nt2) (tupOf ht)) (dpAll_ints ns)) .nil))) (condG_leaf k0 (.inr ⟨hpl, rfl⟩) hln hrow)
    · have hk2 : 2 ≤ k := by
        simp at hc
        omega
      obtain ⟨j, rfl⟩ : ∃ j, k = j + 1 := ⟨k - 1, by omega⟩
      have ej : (((j + 1 : Nat) : Int) - 1) = ((j : Nat) : Int) := by omega
      walk_at "g"
      refine if_b (fun hw => ?_) (fun hw => ?_)
      · walk_at "g"
        rw [ej]
        refine ⟨a, j, rfl, by omega, by omega, by omega, b2.d1, fun v d H3 b3 hv hG => ?_⟩
        walk_at "g"
        refine ⟨sz (by simp), fun t nt => ?_⟩
        exact q _ _ _ ((b2.trans b3).new nt) (.tup (tupOf upd_same) (.cons (.str _) (.cons (dp_s (Same.new nt) hv) .nil))) (condG_node (by omega) strOk_not (by decide +kernel) (by decide +kernel) (.inr ⟨rfl, rfl⟩) fun y hy => by cases List.mem_singleton.mp hy; exact hG)
      · walk_at "g"
        refine ⟨a, 3, rfl, b2.d1, by decide, by decide, fun r H3 r0 r1 b3 => ?_⟩
        walk_at "g"
        refine w_I (divW (by decide) (by decide)) ?_
        walk_at "g"
        refine w_I (.inr (by split <;> exact ⟨by decide, by decide⟩)) ?_
        walk_at "g"
        have b4 := b2.trans b3
        generalize hparts : 2 + r / 2 * (if decide (((j + 1 : Nat) : Int) < 4) = true then 1 else 0) = parts
        have hp2 : 2 ≤ parts ∧ parts ≤ 3 ∧ (j = 3 → parts = 2) := by
          rw [← hparts]
          split
          · rename_i h4
            simp at h4
            omega
          · omega
        refine ⟨sz (by simp), fun p np => ?_⟩
        have b5 := b4.new (o := .lst [.str "and", .str "or"]) np
        have hp5 : upd H3 p (.lst [.str "and", .str "or"]) p = some (.lst [.str "and", .str "or"]) := upd_same
        generalize upd H3 p (.lst [.str "and", .str "or"]) = H5 at *
        walk_at "g"
        refine w_I (by decide) ?_
        obtain ⟨z, hz, hz2⟩ := atI_twoS (r := way % 2) (a := "and") (b := "or") (Int.emod_nonneg _ (by decide)) (Int.emod_lt_of_pos _ (by decide))
        refine w_ixL (lstOf hp5) hz ?_
        walk_at "g"
        refine ⟨sz (by simp), fun p6 np6 => ?_⟩
        have b6 := b5.new (o := .tup [.str z]) np6
        have hp6 : upd H5 p6 (.tup [.str z]) p6 = some (.tup [.str z]) := upd_same
        generalize upd H5 p6 (.tup [.str z]) = H6 at *
        walk_at "g"
        refine ⟨by omega, by omega, ?_⟩
        refine lc_dice (K := K) (a := a) walk_range (by omega) (fun i ds => ds.length = i ∧ ∀ d ∈ ds, CondG j d) b6.d1 ⟨rfl, fun _ h => by cases h⟩ (fun _ _ => trivial) ?_ ?_
        · rintro D i acc x H' H'' hD hi hacc hH' ⟨bb, nD, ds, hds, im, hl, hG⟩ ⟨rfl, rfl⟩
          walk_at "g"
          refine ⟨rfl, ?_⟩
          walk_at "g"
          rw [ej]
          refine ⟨a, j, rfl, by omega, by omega, by omega, bb.d1, fun v d H7 b7 hv hGd => ?_⟩
          refine lcr_nx hD (by omega) hacc hH' bb nD hds im b7 hv hGd.im ⟨by simp [hl], fun e he => ?_⟩
          rcases List.mem_append.mp he with he | he
          · exact hG e he
          · cases List.mem_singleton.mp he
            exact hGd
        · rintro D acc ds H7 hD b7 nD hD7 hds im ⟨hl, hG⟩
          walk_at "g"
          refine ⟨_, _, rfl, .inl ⟨lstOf hD7, fun t nt => ?_⟩⟩
          have b8 := (b6.trans b7).new (o := .tup acc) nt
          have hp8 : SqT K (upd H7 t (.tup acc)) p6 [.str z] := tup_s (Same.new nt) (b7.tup (tupOf hp6))
          have hds8 := dps_s (Same.new (o := .tup acc) nt) hds
          have ht8 : upd H7 t (.tup acc) t = some (.tup acc) := upd_same
          generalize upd H7 t (.tup acc) = H8 at *
          have hal := dpAll_len hds8
          cases hds8 with
          | nil =>
            simp at hl
            omega
          | cons hv hvs =>
          rename_i v0 vs0 d0 ds0
          simp only [List.length_cons] at hl hal
          refine w_catT hp8 (tupOf ht8) (by simp; omega) fun t2 nt2 => ?_
          have s9 : Same H8 (upd H8 t2 (.tup ([.str z] ++ v0 :: vs0))) := Same.new nt2
          refine q _ (.tuple (.str z :: d0 :: ds0)) _ (b8.new nt2) (.tup (tupOf upd_same) (.cons (.str z) (.cons (dp_s s9 hv) (dps_s s9 hvs)))) (condG_node (by omega) ?_ ?_ ?_ (.inl ⟨hz2, by omega, by omega, fun e => by have := hp2.2.2 e; omega⟩) hG)
          · rcases hz2 with rfl | rfl
            · exact strOk_and
            · exact strOk_or
          · rcases hz2 with rfl | rfl <;> decide +kernel
          · rcases hz2 with rfl | rfl <;> decide +kernel
theorem ok__law_condition (T : Tx K mg) : Ok P w K mg base 9 "_law_condition" ["dice", "deep"] (spLCondR K 5) := okr__law_condition T 5
theorem okr__law_holds (T : Tx K mg) : ∀ n : Nat, Ok P w K mg base (1 + n) "_law_holds" ["condition", "land", "plan"] (spFitsR K n) := by
  intro n
  induction n with
  | zero =>
    refine (Ok.bot T.G__law_holds T.F__law_holds (fun _ _ _ _ _ _ us hl => match us, hl with | [_, _, _], _ => rfl)).imp (fun vs H Q E h => ?_)
    obtain ⟨v, d, l, p, k, rfl, hk, hd, sh, hp, q⟩ := h
    omega
  | succ n ih =>
  refine Ok.mk' (k := 1 + n) T.G__law_holds T.F__law_holds (fun _ _ _ _ _ _ us hl => match us, hl with | [_, _, _], _ => rfl) sc__law_holds (fun vs H Q E h => ?_) (fun cdv A outer s H vs Q E hr h => ?_)
  · obtain ⟨v, d, l, p, k, rfl, hk, hd, sh, hp, q⟩ := h
    rfl
  · obtain ⟨v, d, l, p, k, rfl, hk, hd, sh, hp, q⟩ := h
    refine ⟨(tSeq (tIfS (tTest (tOp (rIn K false) (tOp (rIxT K) (tVar 0) (tC (.int 0))) (tTup (tCons (tC (.str "land")) (tCons (tC (.str "plan")) tNil))))) (tRet (tOp (rIn K false) (tIf (tTest (tOp rEq (tOp (rIxT K) (tVar 0) (tC (.int 0))) (tC (.str "land")))) (tVar 1) (tVar 2)) (tOp (rIxT K) (tVar 0) (tC (.int 1))))) tNext)
      (tSeq (tIfS (tTest (tOp rEq (tOp (rIxT K) (tVar 0) (tC (.int 0))) (tC (.str "not")))) (tRet (tNotV (tCall (spFitsR K n) [] E (tCons (tOp (rIxT K) (tVar 0) (tC (.int 1))) (tCons (tVar 1) (tCons (tVar 2) tNil)))))) tNext)
      (tSeq (tFor (iTup K (tSl (rSlA K) (tVar 0) (tPart (tC (.int 1))) tNoPart)) (gName 3) (tIfS (tTest (tOp rNe (tCall (spFitsR K n) [] E (tCons (tVar 3) (tCons (tVar 1) (tCons (tVar 2) tNil)))) (tOp rEq (tOp (rIxT K) (tVar 0) (tC (.int 0))) (tC (.str "and"))))) (tRet (tOp rEq (tOp (rIxT K) (tVar 0) (tC (.int 0))) (tC (.str "or")))) tNext))
      (tRet (tOp rEq (tOp (rIxT K) (tVar 0) (tC (.int 0))) (tC (.str "and"))))))), (pss_cons (ps_if (pt_cmpR op_in_seq (pe_ix ix_tup (pv 0) pe_int (fun _ _ => rfl)) (pe_tup (pa_cons pe_str (pa_cons pe_str pa_nil))) (by rfl)) (pss_one (ps_ret (pe_cmpR op_in_seq (pe_ifExp (pt_cmpR op_eq (pe_ix ix_tup (pv 0) pe_int (fun _ _ => rfl)) pe_str (nomark _)) (pv 1) (pv 2)) (pe_ix ix_tup (pv 0) pe_int (fun _ _ => rfl)) (by rfl)))) pss_nil)
      (pss_cons (ps_if (pt_cmpR op_eq (pe_ix ix_tup (pv 0) pe_int (fun _ _ => rfl)) pe_str (nomark _)) (pss_one (ps_ret (pe_not (pe_f ih hr (pnx (L2N.takes_of rfl rfl rfl rfl)) (pa_cons (pe_ix ix_tup (pv 0) pe_int (fun _ _ => rfl)) (pa_cons (pv 1) (pa_cons (pv 2) pa_nil))))))) pss_nil)
      (pss_cons (ps_for (passes_of rfl) rfl (pi_tup (pe_slice sl_tupA (pv 0) (po_some pe_int) po_none)) (pg_name (i := 3) sc__law_holds.nd rfl (by first | exact Or.inl rfl | exact Or.inr rfl)) (pss_one (ps_if (pt_cmpR op_ne (pe_f ih hr (pnx (L2N.takes_of rfl rfl rfl rfl)) (pa_cons (pv 3) (pa_cons (pv 1) (pa_cons (pv 2) pa_nil)))) (pe_cmpR op_eq (pe_ix ix_tup (pv 0) pe_int (fun _ _ => rfl)) pe_str (nomark _)) (nomark _)) (pss_one (ps_ret (pe_cmpR op_eq (pe_ix ix_tup (pv 0) pe_int (fun _ _ => rfl)) pe_str (nomark _)))) pss_nil)))
      (pss_one (ps_ret (pe_cmpR op_eq (pe_ix ix_tup (pv 0) pe_int (fun _ _ => rfl)) pe_str (nomark _))))))), ?_⟩
    walk_at "0"
    obtain ⟨j, rfl⟩ : ∃ j, k = j + 1 := by
      cases k with
      | zero => exact absurd rfl hp
      | succ j => exact ⟨j, rfl⟩
    obtain ⟨z, a, r, rfl, hz⟩ := parts_inv hp
    walk_at "g"
    refine w_ixD0 hd fun u0 h0 => ?_
    cases dp_str h0
    walk_at "g"
    refine ⟨sz (by simp), fun t nt => ?_⟩
    have s1 : Same H (upd H t (.tup [.str "land", .str "plan"])) := Same.new nt
    refine w_inT (tupOf upd_same) rfl rfl ?_
    rw [inV_two]
    generalize upd H t (.tup [.str "land", .str "plan"]) = H1 at *
    have hd1 := dp_s s1 hd
    walk_at "g"
    refine if_b (fun hw => ?_) (fun hw => ?_)
    · walk_at "g"
      refine w_ixD0 hd1 fun u1 h1 => ?_
      cases dp_str h1
      walk_at "g"
      rcases hz with ⟨rfl, rfl, hr0⟩ | ⟨rfl, rfl, hr0⟩ | ⟨n1, n2, _⟩
      · refine if_t (decide_eq_true rfl) ?_
        obtain ⟨n0, ns, rfl, _⟩ := isRow_inv hr0
        walk_at "g"
        refine w_ixD1 hd1 fun u2 h2 => ?_
        obtain ⟨ad, xs, rfl, hx, hxs⟩ := dp_tuple h2
        cases dpAll_intsV hxs
        refine w_inT hx rfl (flat_ints _) ?_
        rw [inV_ints, ← inRowD_ints]
        rw [fitsD_land] at q
        exact q _ s1
      · refine if_f (by decide +kernel) ?_
        obtain ⟨n0, ns, rfl, _⟩ := isRow_inv hr0
        walk_at "g"
        refine w_ixD1 hd1 fun u2 h2 => ?_
        obtain ⟨ad, xs, rfl, hx, hxs⟩ := dp_tuple h2
        cases dpAll_intsV hxs
        refine w_inT hx rfl (flat_ints _) ?_
        rw [inV_ints, ← inRowD_ints]
        rw [fitsD_plan] at q
        exact q _ s1
      · simp [n1, n2] at hw
    · rcases hz with ⟨rfl, _⟩ | ⟨rfl, _⟩ | ⟨n1, n2, hg, hys⟩
      · simp at hw
      · simp at hw
      walk_at "g"
      refine w_ixD0 hd1 fun u1 h1 => ?_
      cases dp_str h1
      walk_at "g"
      by_cases hn : z = "not"
      · subst hn
        refine if_t (decide_eq_true rfl) ?_
        walk_at "g"
        refine w_ixD1 hd1 fun u2 h2 => ?_
        walk_at "g"
        refine ⟨u2, a, l, p, j, rfl, by omega, h2, okD_mem sh (by simp), hys a (by simp), fun H2 s2 => ?_⟩
        walk_at "g"
        rw [fitsD_not] at q
        exact q _ (s1.trans s2)
      · refine if_f (decide_eq_false hn) ?_
        have hao : z = "and" ∨ z = "or" := by
          rcases hg with ⟨e, _⟩ | ⟨e, _⟩
          · exact absurd e hn
          · exact e
        walk_at "g"
        obtain ⟨ad, xs, rfl, hx, hxs⟩ := dp_tuple hd1
        cases hxs with
        | cons hx0 hxs =>
        rename_i v0 xs
        refine w_sl1 hx fun p3 np3 => ?_
        have s3 : Same H1 (upd H1 p3 (.tup xs)) := Same.new np3
        have hp3 : (upd H1 p3 (.tup xs)) p3 = some (.tup xs) := upd_same
        generalize upd H1 p3 (.tup xs) = H3 at *
        walk_at "g"
        refine ⟨⟨xs, tupOf hp3⟩, ?_⟩
        have hxs3 := dps_s s3 hxs
        have hd3 := dp_s s3 hd1
        have hln : xs.length = (a :: r).length := dpAll_len hxs3
        refine for_go walk_tup (fun i σ H' => (∃ x, σ = [some (.ref ad), some (.int l), some (.int p), x]) ∧ Same H3 H' ∧ ∀ y ∈ (a :: r).take i, fitsD j y l p = decide (z = "and")) ⟨⟨_, rfl⟩, Same.refl _, fun _ h => by simp at h⟩ (fun i σ H' _ h => tupOf (h.2.1 _ _ hp3)) ?_ ?_
        · rintro i x σ H' H'' hi ⟨⟨x3, rfl⟩, s4, hall⟩ ⟨rfl, hxi⟩
          walk_at "g"
          obtain ⟨e, he, hde⟩ := dpAll_getV hxs3 hxi
          have em : e ∈ a :: r := List.mem_of_getElem? he
          refine ⟨x, e, l, p, j, rfl, by omega, dp_s s4 hde, okD_mem sh (List.mem_cons_of_mem _ em), hys e em, fun H5 s5 => ?_⟩
          walk_at "g"
          have hd5 := dp_s s5 (dp_s s4 hd3)
          refine w_ixD0 hd5 fun u3 h3 => ?_
          cases dp_str h3
          walk_at "g"
          refine w_neB ?_
          walk_at "g"
          have sT := (s1.trans s3).trans (s4.trans s5)
          refine if_b (fun hb => ?_) (fun hb => ?_)
          · walk_at "g"
            refine w_ixD0 hd5 fun u4 h4 => ?_
            cases dp_str h4
            walk_at "g"
            have eq : fitsD (j + 1) (.tuple (.str z :: a :: r)) l p = decide (z = "or") := by
              rcases hao with rfl | rfl
              · rw [fitsD_and]
                have e1 : fitsD j e l p = false := by simpa using hb
                rw [show decide (("and" : Str) = "or") = false by decide +kernel, List.all_eq_false]
                exact ⟨e, em, by rw [e1]; decide⟩
              · rw [fitsD_or]
                have e1 : fitsD j e l p = true := by
                  rw [show decide (("or" : Str) = "and") = false by decide +kernel] at hb
                  simpa using hb
                rw [decide_eq_true rfl, List.any_eq_true]
                exact ⟨e, em, e1⟩
            rw [← eq]
            exact q _ sT
          · walk_at "g"
            refine ⟨⟨_, rfl⟩, s4.trans s5, fun y hy => ?_⟩
            rw [List.take_add_one, he] at hy
            rcases List.mem_append.mp hy with hy | hy
            · exact hall y hy
            · have ey : y = e := by simpa using hy
              subst ey
              simpa using hb
        · rintro σ H' ⟨⟨x3, rfl⟩, s4, hall⟩
          walk_at "g"
          refine w_ixD0 (dp_s s4 hd3) fun u3 h3 => ?_
          cases dp_str h3
          walk_at "g"
          rw [List.take_of_length_le (by omega)] at hall
          have eq : fitsD (j + 1) (.tuple (.str z :: a :: r)) l p = decide (z = "and") := by
            rcases hao with rfl | rfl
            · rw [fitsD_and, decide_eq_true rfl, List.all_eq_true]
              intro y hy
              have := hall y hy
              simpa using this
            · rw [fitsD_or, show decide (("or" : Str) = "and") = false by decide +kernel, List.any_eq_false]
              intro y hy
              have := hall y hy
              rw [show decide (("or" : Str) = "and") = false by decide +kernel] at this
              rw [this]
              decide
          rw [← eq]
          exact q _ ((s1.trans s3).trans s4)
theorem ok__law_holds (T : Tx K mg) : Ok P w K mg base 7 "_law_holds" ["condition", "land", "plan"] (spFitsR K 6) := okr__law_holds T 6
theorem ok__law_rules (T : Tx K mg) : Ok P w K mg base 10 "_law_rules" ["dice", "deep"] (spLRules K) := by
  refine Ok.mk' T.G__law_rules T.F__law_rules (fun _ _ _ _ _ _ us hl => match us, hl with | [_, _], _ => rfl) sc__law_rules (fun vs H Q E h => ?_) (fun cdv A outer s H vs Q E hr h => ?_)
  · obtain ⟨a, k, rfl, k0, k1, hd, q⟩ := h
    rfl
  · obtain ⟨a, k, rfl, k0, k1, hd, q⟩ := h
    refine ⟨(tSeq (tAsg (tLst tNil) (gName 2))
      (tSeq (tFor (iRng1 (tCons (tCall (spRoll) [] E (tCons (tVar 0) (tCons (tC (.int 4)) tNil))) tNil)) (gName 3) (tSeq (tAsg (tOp (rIxL K) (tLst (tCons (tC (.int 0)) (tCons (tC (.int 100)) (tCons (tC (.int 1)) (tCons (tC (.int 99)) (tCons (tCall (spRoll) [] E (tCons (tVar 0) (tCons (tC (.int 101)) tNil))) (tCons (tCall (spRoll) [] E (tCons (tVar 0) (tCons (tC (.int 101)) tNil))) tNil))))))) (tCall (spRoll) [] E (tCons (tVar 0) (tCons (tC (.int 6)) tNil)))) (gName 4))
      (tDrop (tBM K "list" rAppend (tVar 2) (tCons (tTup (tCons (tCall (spLCondR K 5) [] E (tCons (tVar 0) (tCons (tVar 1) tNil))) (tCons (tVar 4) tNil))) tNil)))))
      (tSeq (tIfS (tTest (tOp rEq (tCall (spRoll) [] E (tCons (tVar 0) (tCons (tC (.int 3)) tNil))) (tC (.int 0)))) (tDrop (tBM K "list" rAppend (tVar 2) (tCons (tTup (tCons (tTup (tCons (tC (.str "plan")) (tCons (tTup (tCons (tC (.int 0)) (tCons (tC (.int 1)) (tCons (tC (.int 2)) (tCons (tC (.int 3)) tNil))))) tNil))) (tCons (tCall (spRoll) [] E (tCons (tVar 0) (tCons (tC (.int 101)) tNil))) tNil))) tNil))) tNext)
      (tRet (tCB (cTuple K) (tCons (tVar 2) tNil)))))), (pss_cons (ps_set (i := 2) sc__law_rules.nd rfl (by first | exact Or.inl rfl | exact Or.inr rfl) (pe_lst pa_nil))
      (pss_cons (ps_for (passes_of rfl) rfl (pi_range1 (by rfl) T.Z_range (pa_cons (pe_f (ok__law_roll T) hr (pnx (L2N.takes_of rfl rfl rfl rfl)) (pa_cons (pv 0) (pa_cons pe_int pa_nil))) pa_nil)) (pg_name (i := 3) sc__law_rules.nd rfl (by first | exact Or.inl rfl | exact Or.inr rfl)) (pss_cons (ps_set (i := 4) sc__law_rules.nd rfl (by first | exact Or.inl rfl | exact Or.inr rfl) (pe_ix ix_list (pe_lst (pa_cons pe_int (pa_cons pe_int (pa_cons pe_int (pa_cons pe_int (pa_cons (pe_f (ok__law_roll T) hr (pnx (L2N.takes_of rfl rfl rfl rfl)) (pa_cons (pv 0) (pa_cons pe_int pa_nil))) (pa_cons (pe_f (ok__law_roll T) hr (pnx (L2N.takes_of rfl rfl rfl rfl)) (pa_cons (pv 0) (pa_cons pe_int pa_nil))) pa_nil))))))) (pe_f (ok__law_roll T) hr (pnx (L2N.takes_of rfl rfl rfl rfl)) (pa_cons (pv 0) (pa_cons pe_int pa_nil))) (fun _ _ => rfl)))
      (pss_one (ps_expr (pe_bm PySem.F.plainAttrs_list PySem.F.slot_list_append PySem.F.type_list_append mt_append (pv 2) (pa_cons (pe_tup (pa_cons (pe_f (ok__law_condition T) hr (pnx (L2N.takes_of rfl rfl rfl rfl)) (pa_cons (pv 0) (pa_cons (pv 1) pa_nil))) (pa_cons (pv 4) pa_nil))) pa_nil))))))
      (pss_cons (ps_if (pt_cmpR op_eq (pe_f (ok__law_roll T) hr (pnx (L2N.takes_of rfl rfl rfl rfl)) (pa_cons (pv 0) (pa_cons pe_int pa_nil))) pe_int (nomark _)) (pss_one (ps_expr (pe_bm PySem.F.plainAttrs_list PySem.F.slot_list_append PySem.F.type_list_append mt_append (pv 2) (pa_cons (pe_tup (pa_cons (pe_tup (pa_cons pe_str (pa_cons (pe_tup (pa_cons pe_int (pa_cons pe_int (pa_cons pe_int (pa_cons pe_int pa_nil))))) pa_nil))) (pa_cons (pe_f (ok__law_roll T) hr (pnx (L2N.takes_of rfl rfl rfl rfl)) (pa_cons (pv 0) (pa_cons pe_int pa_nil))) pa_nil))) pa_nil)))) pss_nil)
      (pss_one (ps_ret (pe_callTy call_tuple_of (by rfl) T.Z_tuple (by decide +kernel) (pa_cons (pv 2) pa_nil))))))), ?_⟩
    walk_at "0"
    walk_at "g"
    refine ⟨sz (by simp), fun L nL => ?_⟩
    have b0 := (But.refl hd).new (o := .lst []) nL
    have nLa := hd.ne nL
    have hL0 : upd H L (.lst []) L = some (.lst []) := upd_same
    generalize upd H L (.lst []) = H0 at *
    walk_at "g"
    refine ⟨a, 4, rfl, b0.d1, by decide, by decide, fun n H1 n0 n1 b1 => ?_⟩
    walk_at "g"
    refine ⟨by omega, by omega, ?_⟩
    have hL1 := b1.kp _ _ hL0 nLa
    refine for_go walk_range (fun i σ H' => (∃ x3 x4, σ = [some (.ref a), some (.int (k : Nat)), some (.ref L), x3, x4]) ∧ But a H H' ∧ ∃ xs ds, H' L = some (.lst xs) ∧ DpAll K H' xs ds ∧ ds.length ≤ i ∧ ∀ d ∈ ds, RuleG d) ⟨⟨_, _, rfl⟩, b0.trans b1, [], [], hL1, .nil, Nat.le_refl _, fun _ h => by cases h⟩ (fun _ _ _ _ _ => trivial) ?_ ?_
    · rintro i x σ H2 H2' hi ⟨⟨x3, x4, rfl⟩, b2, xs, ds, hL2, hxs, hl, hG⟩ ⟨rfl, rfl⟩
      walk_at "g"
      refine ⟨a, 101, rfl, b2.d1, by decide, by decide, fun r1 H3 r10 r11 b3 => ?_⟩
      walk_at "g"
      refine ⟨a, 101, rfl, b3.d1, by decide, by decide, fun r2 H4 r20 r21 b4 => ?_⟩
      walk_at "g"
      refine ⟨sz (by simp), fun p np => ?_⟩
      have b5 := ((b2.trans b3).trans b4).new (o := .lst [.int 0, .int 100, .int 1, .int 99, .int r1, .int r2]) np
      have hp5 : upd H4 p (.lst [.int 0, .int 100, .int 1, .int 99, .int r1, .int r2]) p = some (.lst [.int 0, .int 100, .int 1, .int 99, .int r1, .int r2]) := upd_same
      have b45 : But a H4 (upd H4 p (.lst [.int 0, .int 100, .int 1, .int 99, .int r1, .int r2])) := But.of b4.d1 (Same.new np)
      have npa := b4.d1.ne np
      generalize upd H4 p (.lst [.int 0, .int 100, .int 1, .int 99, .int r1, .int r2]) = H5 at *
      walk_at "g"
      refine ⟨a, 6, rfl, b5.d1, by decide, by decide, fun r3 H6 r30 r31 b6 => ?_⟩
      obtain ⟨m, hm, hm2⟩ := atI_sixI (a := 0) (b := 100) (c := 1) (d := 99) (e := r1) (f := r2) r30 r31
      refine w_ixL (lstOf (b6.kp _ _ hp5 npa)) hm ?_
      have m01 : 0 ≤ m ∧ m ≤ 100 := by omega
      walk_at "g"
      have b26 := ((b3.trans b4).trans b45).trans b6
      have hL6 := b26.kp _ _ hL2 nLa
      refine ⟨tyL hL6, ?_⟩
      walk_at "g"
      refine ⟨a, k, rfl, k0, by omega, by omega, b6.d1, fun v c H7 b7 hv hG7 => ?_⟩
      walk_at "g"
      refine ⟨sz (by simp), fun t nt => ?_⟩
      have b27 := (b26.trans b7).new (o := .tup [v, .int m]) nt
      have hL8 := b27.kp _ _ hL2 nLa
      have hds := RulesG.imm (ds := ds) ⟨by omega, hG⟩
      have hxs8 := b27.dpAll hds hxs
      have hn8 : Dp K (upd H7 t (.tup [v, .int m])) (.ref t) (.tuple [c, .int m]) := .tup (tupOf upd_same) (.cons (dp_s (Same.new nt) hv) (.cons (.int m) .nil))
      have hr8 : RuleG (.tuple [c, .int m]) := ⟨c, m, k, rfl, by omega, hG7, m01.1, m01.2⟩
      generalize upd H7 t (.tup [v, .int m]) = H8 at *
      have hxl := dpAll_len hxs8
      walk_at "g"
      refine w_app hL8 (by omega) ?_
      walk_at "g"
      refine ⟨⟨_, _, rfl⟩, (b2.trans b27).mut nL nLa, xs ++ [.ref t], ds ++ [.tuple [c, .int m]], upd_same, ?_, by simp; omega, fun d hd => ?_⟩
      · refine dpAll_mut hL8 ?_ (dpAll_app hxs8 (.cons hn8 .nil))
        rw [immAll_app, hds]
        simp only [immAll, hr8.imm, Bool.and_self]
      · rcases List.mem_append.mp hd with hd | hd
        · exact hG d hd
        · cases List.mem_singleton.mp hd
          exact hr8
    · rintro σ H2 ⟨⟨x3, x4, rfl⟩, b2, xs, ds, hL2, hxs, hl, hG⟩
      have hl3 : ds.length ≤ 3 := by omega
      walk_at "g"
      refine ⟨a, 3, rfl, b2.d1, by decide, by decide, fun r H3 r0 r1 b3 => ?_⟩
      walk_at "g"
      have hds := RulesG.imm (ds := ds) ⟨by omega, hG⟩
      have hL3 := b3.kp _ _ hL2 nLa
      have hxs3 := b3.dpAll hds hxs
      have bT := b2.trans b3
      have hxl := dpAll_len hxs3
      refine if_b (fun _ => ?_) (fun _ => ?_)
      · walk_at "g"
        refine ⟨tyL hL3, ?_⟩
        walk_at "g"
        refine ⟨sz (by simp), fun t1 nt1 => ?_⟩
        have b4 : But a H3 (upd H3 t1 (.tup [.int 0, .int 1, .int 2, .int 3])) := But.of b3.d1 (Same.new nt1)
        have ht1 : upd H3 t1 (.tup [.int 0, .int 1, .int 2, .int 3]) t1 = some (.tup [.int 0, .int 1, .int 2, .int 3]) := upd_same
        generalize upd H3 t1 (.tup [.int 0, .int 1, .int 2, .int 3]) = H4 at *
        walk_at "g"
        refine ⟨sz (by simp), fun t2 nt2 => ?_⟩
        have b5 := b4.new (o := .tup [.str "plan", .ref t1]) nt2
        have hc5 : Dp K (upd H4 t2 (.tup [.str "plan", .ref t1])) (.ref t2) (.tuple [.str "plan", .tuple (([0, 1, 2, 3] : List Int).map PyData.int)]) := .tup (tupOf upd_same) (.cons (.str _) (.cons (.tup (tup_s (Same.new nt2) (tupOf ht1)) (dpAll_ints [0, 1, 2, 3])) .nil))
        generalize upd H4 t2 (.tup [.str "plan", .ref t1]) = H5 at *
        walk_at "g"
        refine ⟨a, 101, rfl, b5.d1, by decide, by decide, fun m H6 m0 m1 b6 => ?_⟩
        walk_at "g"
        refine ⟨sz (by simp), fun t3 nt3 => ?_⟩
        have hGc : CondG 1 (.tuple [.str "plan", .tuple (([0, 1, 2, 3] : List Int).map PyData.int)]) := condG_leaf (by decide) (.inr ⟨rfl, rfl⟩) (by decide) (by decide +kernel)
        have hr8 : RuleG (.tuple [.tuple [.str "plan", .tuple (([0, 1, 2, 3] : List Int).map PyData.int)], .int m]) := ⟨_, m, 1, rfl, by omega, hGc, m0, by omega⟩
        have hn8 : Dp K (upd H6 t3 (.tup [.ref t2, .int m])) (.ref t3) (.tuple [.tuple [.str "plan", .tuple (([0, 1, 2, 3] : List Int).map PyData.int)], .int m]) := .tup (tupOf upd_same) (.cons (dp_s (Same.new nt3) (b6.dp hGc.im hc5)) (.cons (.int m) .nil))
        have b7 := (b5.trans b6).new (o := .tup [.ref t2, .int m]) nt3
        generalize upd H6 t3 (.tup [.ref t2, .int m]) = H7 at *
        have hL7 := b7.kp _ _ hL3 nLa
        have hxs7 := b7.dpAll hds hxs3
        walk_at "g"
        refine w_app hL7 (by omega) ?_
        have hi8 : immAll (ds ++ [.tuple [.tuple [.str "plan", .tuple (([0, 1, 2, 3] : List Int).map PyData.int)], .int m]]) = true := by
          rw [immAll_app, hds]
          simp only [immAll, hr8.imm, Bool.and_self]
        have hxs8 := dpAll_mut (o := .lst (xs ++ [.ref t3])) hL7 hi8 (dpAll_app hxs7 (.cons hn8 .nil))
        have b8 := (bT.trans b7).mut (o := .lst (xs ++ [.ref t3])) nL nLa
        have hL8 : upd H7 L (.lst (xs ++ [.ref t3])) L = some (.lst (xs ++ [.ref t3])) := upd_same
        generalize upd H7 L (.lst (xs ++ [.ref t3])) = H8 at *
        walk_at "g"
        refine ⟨_, _, rfl, .inl ⟨lstOf hL8, fun t nt => ?_⟩⟩
        refine q _ _ _ (b8.new nt) (.tup (tupOf upd_same) (dps_s (Same.new nt) hxs8)) ⟨by simp; omega, fun d hd => ?_⟩
        rcases List.mem_append.mp hd with hd | hd
        · exact hG d hd
        · cases List.mem_singleton.mp hd
          exact hr8
      · walk_at "g"
        refine ⟨_, _, rfl, .inl ⟨lstOf hL3, fun t nt => ?_⟩⟩
        exact q _ _ _ (bT.new nt) (.tup (tupOf upd_same) (dps_s (Same.new nt) hxs3)) ⟨by omega, hG⟩
theorem ok__law_share (T : Tx K mg) : Ok P w K mg base 8 "_law_share" ["rules", "land", "plan"] (spShareOf K) := by
  refine Ok.mk' T.G__law_share T.F__law_share (fun _ _ _ _ _ _ us hl => match us, hl with | [_, _, _], _ => rfl) sc__law_share (fun vs H Q E h => ?_) (fun cdv A outer s H vs Q E hr h => ?_)
  · obtain ⟨v, ds, l, p, rfl, hd, sh, hR, q⟩ := h
    rfl
  · obtain ⟨v, ds, l, p, rfl, hd, sh, hR, q⟩ := h
    refine ⟨(tSeq (tFor (iTup K (tVar 0)) (gTup K 2 (gCons (gName 3) (gCons (gName 4) gNil))) (tIfS (tB (tCall (spFitsR K 6) [] E (tCons (tVar 3) (tCons (tVar 1) (tCons (tVar 2) tNil))))) (tRet (tVar 4)) tNext))
      (tRet (tC (.int 0)))), (pss_cons (ps_for (passes_of rfl) rfl (pi_tup (pv 0)) (pg_tup (by rfl) (pgs_cons (pg_name (i := 3) sc__law_share.nd rfl (by first | exact Or.inl rfl | exact Or.inr rfl)) (pgs_cons (pg_name (i := 4) sc__law_share.nd rfl (by first | exact Or.inl rfl | exact Or.inr rfl)) pgs_nil))) (pss_one (ps_if (pt_val (pe_f (ok__law_holds T) hr (pnx (L2N.takes_of rfl rfl rfl rfl)) (pa_cons (pv 3) (pa_cons (pv 1) (pa_cons (pv 2) pa_nil))))) (pss_one (ps_ret (pv 4))) pss_nil)))
      (pss_one (ps_ret pe_int))), ?_⟩
    walk_at "0"
    walk_at "g"
    obtain ⟨a, xs, rfl, hx, hxs⟩ := dp_tuple hd
    walk_at "g"
    refine ⟨⟨xs, hx⟩, ?_⟩
    have hxl := dpAll_len hxs
    refine for_go walk_tup (fun i σ H' => (∃ x3 x4, σ = [some (.ref a), some (.int l), some (.int p), x3, x4]) ∧ Same H H' ∧ shareL ds l p = shareL (ds.drop i) l p) ⟨⟨_, _, rfl⟩, Same.refl _, rfl⟩ (fun i σ H' _ h => tup_s h.2.1 hx) ?_ ?_
    · rintro i x σ H' H'' hi ⟨⟨x3, x4, rfl⟩, s1, he⟩ ⟨rfl, hxi⟩
      obtain ⟨e, he2, hde⟩ := dpAll_getV hxs hxi
      have hm := List.mem_of_getElem? he2
      obtain ⟨c, m, rfl, hc, m0, m1⟩ := isRule_inv (areRules_mem hR hm)
      obtain ⟨a2, u, rfl, hs2, hu⟩ := dp_pair (dp_s s1 hde)
      refine w_gtup hs2 rfl ?_
      walk_at "g"
      refine ⟨u, c, l, p, 5, rfl, by decide, hu, okD_mem (okD_mem sh hm) (by simp), isCond_parts hc, fun H3 s3 => ?_⟩
      walk_at "g"
      rw [shareL_drop he2] at he
      cases hf : fitsD 5 c l p with
      | true =>
        walk_at "g"
        rw [hf] at he
        have he : shareL ds l p = m := he
        rw [← he]
        exact q _ (s1.trans s3)
      | false =>
        walk_at "g"
        rw [hf] at he
        exact ⟨⟨_, _, rfl⟩, s1.trans s3, he⟩
    · rintro σ H' ⟨⟨x3, x4, rfl⟩, s1, he⟩
      walk_at "g"
      rw [List.drop_of_length_le (by omega)] at he
      have he : shareL ds l p = 0 := he
      rw [← he]
      exact q _ s1
theorem ok__law_kinds (T : Tx K mg) : Ok P w K mg base 1 "_law_kinds" [] (spKinds K) := by
  refine Ok.mk' T.G__law_kinds T.F__law_kinds (fun _ _ _ _ _ _ us hl => match us, hl with | [], _ => rfl) sc__law_kinds (fun vs H Q E h => ?_) (fun cdv A outer s H vs Q E hr h => ?_)
  · obtain ⟨rfl, q⟩ := h
    rfl
  · obtain ⟨rfl, q⟩ := h
    refine ⟨(tRet (tLc (iRng1 (tCons (tC (.int 24)) tNil)) (gName 0) tYes (tTup (tCons (tOp oDiv (tVar 0) (tC (.int 4))) (tCons (tOp oMod (tVar 0) (tC (.int 4))) tNil))) [0])), (pss_one (ps_ret (pe_lc (own := [("at", 0)]) rfl sc__law_kinds.nd (pi_range1 (by rfl) T.Z_range (pa_cons pe_int pa_nil)) (blkOk_by (own := [("at", 0)]) (N := ["at"]) (sc := defScope s__law_kinds) (by decide +kernel)) (fun _ _ _ _ _ => (pg_name (i := 0) sc__law_kinds.nd rfl (by first | exact Or.inl rfl | exact Or.inr rfl))) (fun _ _ _ _ _ => pts_nil) (fun _ _ _ _ _ => (pe_tup (pa_cons (pe_op op_fdivW (pv 0) pe_int) (pa_cons (pe_op op_mod (pv 0) pe_int) pa_nil))))))), ?_⟩
    walk_at "0"
    walk_at "g"
    refine ⟨by decide, by decide, ?_⟩
    refine lc_data (K := K) walk_range (by decide) ((List.range 24).map fun (i : Nat) => [kd ((i : Int) / 4, (i : Int) % 4)]) (by simp) (fun _ _ => trivial) ?_ ?_
    · rintro D i acc x H' H'' hD hi hacc hH' iv ⟨rfl, rfl⟩
      walk_at "g"
      refine ⟨rfl, ?_⟩
      walk_at "g"
      refine w_I (divW (by decide) (by decide)) ?_
      walk_at "g"
      refine w_I (by decide) ?_
      walk_at "g"
      refine ⟨sz (by simp), fun t nt => ?_⟩
      have hi24 : i < 24 := hi
      refine lcd_nx hD (by omega) hacc hH' iv (Same.new nt) (dp_kd upd_same) ?_ ?_
      · rw [flat_oneD (fun (i : Nat) => kd ((i : Int) / 4, (i : Int) % 4))]
        refine immAll_mem fun d hd => ?_
        obtain ⟨k, _, rfl⟩ := List.mem_map.mp hd
        exact kd_imm _
      · rw [List.getElem?_map, List.getElem?_range hi24]
        simp
    · intro D acc H1 hD s1 hD1 hacc
      rw [flat_oneD (fun (i : Nat) => kd ((i : Int) / 4, (i : Int) % 4))] at hacc
      have e : (List.range 24).map (fun (i : Nat) => kd ((i : Int) / 4, (i : Int) % 4)) = kindL.map kd := by
        rw [← kinds24, List.map_map]
        rfl
      rw [e] at hacc
      exact q D acc H1 s1 hD hD1 hacc
theorem kindL_bd : ∀ k ∈ kindL, 0 ≤ k.1 ∧ k.1 ≤ 5 ∧ 0 ≤ k.2 ∧ k.2 ≤ 3 := by decide
def ruleM : PyData → Int
  | .tuple [_, .int m] => m
  | _ => 0
theorem shareL_mem {l p : Int} : ∀ {ds : List PyData}, (∀ d ∈ ds, RuleG d) → shareL ds l p = 0 ∨ shareL ds l p ∈ ds.map ruleM
  | [], _ => .inl rfl
  | d :: ds, h => by
    obtain ⟨c, m, k, rfl, _⟩ := h d (by simp)
    simp only [shareL, List.map_cons, ruleM]
    split
    · exact .inr (by simp)
    · rcases shareL_mem (l := l) (p := p) (ds := ds) fun e he => h e (by simp [he]) with z | z
      · exact .inl z
      · exact .inr (by simp [z])
theorem mat_eq {m : List (List Int)} {f : Nat → Nat → Int} (h6 : m.length = 6) (h4 : ∀ r ∈ m, r.length = 4) (h : ∀ l p : Nat, l < 6 → p < 4 → (m.getD l []).getD p 0 = f l p) : m = (List.range 6).map fun l => (List.range 4).map fun p => f l p := by
  apply List.ext_getElem
  · simp [h6]
  · intro l h1 h2
    have hl : l < 6 := by omega
    have hr := h4 m[l] (List.getElem_mem h1)
    apply List.ext_getElem
    · simp [hr]
    · intro p h3 h5
      have hp : p < 4 := by omega
      have := h l p hl hp
      rw [getD_at h1, getD_at h3] at this
      simp [this]
theorem sh_cells {m : List (List Int)} (h6 : m.length = 6) (h4 : ∀ r ∈ m, r.length = 4) {P : Int → Prop} (h : ∀ l p : Nat, l < 6 → p < 4 → P ((m.getD l []).getD p 0)) : ∀ r ∈ m, ∀ x ∈ r, P x := fun r hr x hx => by
  obtain ⟨i, hi, ei⟩ := List.mem_iff_getElem.mp hr
  obtain ⟨j, hj, ej⟩ := List.mem_iff_getElem.mp hx
  have h4 := h4 r hr
  have := h i j (by omega) (by omega)
  rw [getD_at hi, ei, getD_at hj, ej] at this
  exact this
theorem ok_law (T : Tx K mg) : Ok P w K mg base 15 "law" ["script"] (spLaw K) := by
  refine Ok.mk' T.G_law T.F_law (fun _ _ _ _ _ _ us hl => match us, hl with | [_], _ => rfl) sc_law (fun vs H Q E h => ?_) (fun cdv A outer s H vs Q E hr h => ?_)
  · obtain ⟨a, ns, rfl, hS, hl, q⟩ := h
    rfl
  · obtain ⟨a, ns, rfl, hS, hl, q⟩ := h
    refine ⟨(tSeq (tFor (iList K (tCall (spRounds K) [] E (tCons (tVar 0) (tCons (tC (.int 5)) tNil)))) (gName 1) (tSeq (tAsg (tCall (spLRules K) [] E (tCons (tVar 1) (tCons (tC (.int 2)) tNil))) (gName 2))
      (tSeq (tAsg (tLc (iRng1 (tCons (tC (.int 6)) tNil)) (gName 3) tYes (tLc (iRng1 (tCons (tC (.int 4)) tNil)) (gName 4) tYes (tCall (spShareOf K) [] E0 (tCons (tVar 2) (tCons (tVar 3) (tCons (tVar 4) tNil)))) [4]) [3]) (gName 5))
      (tSeq (tIfS (tOr (tTest (tOp (rNeD K) (tCall (spPlain K) [] E (tCons (tVar 2) tNil)) (tVar 5))) (tTest (tOp (rNeD K) (tCall (spPlain K) [] E (tCons (tCall (spJoined K) [] E (tCons (tVar 5) tNil)) tNil)) (tVar 5)))) (tRet (tC (.bl false))) tNext)
      (tSeq (tAsg (tOp rCat (tLst (tCons (tC (.int 0)) tNil)) (tLc (iRng1 (tCons (tOp oAdd (tC (.int 1)) (tCall (spRoll) [] E (tCons (tVar 1) (tCons (tC (.int 6)) tNil)))) tNil)) (gName 6) tYes (tCall (spRoll) [] E0 (tCons (tVar 1) (tCons (tC (.int 101)) tNil))) [6])) (gName 7))
      (tSeq (tAsg (tLc (iRng1 (tCons (tC (.int 6)) tNil)) (gName 3) tYes (tLc (iRng1 (tCons (tC (.int 4)) tNil)) (gName 4) tYes (tOp (rIxL K) (tVar 7) (tCall (spRoll) [] E0 (tCons (tVar 1) (tCons (tCB (cLen K) (tCons (tVar 7) tNil)) tNil)))) [4]) [3]) (gName 8))
      (tSeq (tAsg (tLc (iList K (tVar 8)) (gName 9) tYes (tCB (cList K) (tCons (tVar 9) tNil)) [9]) (gName 10))
      (tSeq (tAsg (tCall (spJoined K) [] E (tCons (tVar 8) tNil)) (gName 11))
      (tSeq (tIfS (tOr (tTest (tOp (rNeD K) (tCall (spPlain K) [] E (tCons (tVar 11) tNil)) (tVar 8))) (tOr (tTest (tOp (rNeD K) (tVar 8) (tVar 10))) (tTest (tOp oGt (tCB (cLen K) (tCons (tVar 11) tNil)) (tC (.int 6)))))) (tRet (tC (.bl false))) tNext)
      (tFor (iList K (tCall (spKinds K) [] E tNil)) (gTup K 2 (gCons (gName 3) (gCons (gName 4) gNil))) (tIfS (tTest (tOp rNe (tCall (spShare K) [] E (tCons (tVar 11) (tCons (tTup (tCons (tCall (spRoll) [] E (tCons (tVar 1) (tCons (tOp oPow (tC (.int 10)) (tC (.int 12))) tNil))) (tCons (tVar 3) (tCons (tVar 4) tNil)))) tNil))) (tOp (rIxL K) (tOp (rIxL K) (tVar 8) (tVar 3)) (tVar 4)))) (tRet (tC (.bl false))) tNext)))))))))))
      (tRet (tC (.bl true)))), (pss_cons (ps_for (passes_of rfl) rfl (pi_list (pe_f (ok__law_rounds T) hr (pnx (L2N.takes_of rfl rfl rfl rfl)) (pa_cons (pv 0) (pa_cons pe_int pa_nil)))) (pg_name (i := 1) sc_law.nd rfl (by first | exact Or.inl rfl | exact Or.inr rfl)) (pss_cons (ps_set (i := 2) sc_law.nd rfl (by first | exact Or.inl rfl | exact Or.inr rfl) (pe_f (ok__law_rules T) hr (pnx (L2N.takes_of rfl rfl rfl rfl)) (pa_cons (pv 1) (pa_cons pe_int pa_nil))))
      (pss_cons (ps_setLc (i := 5) (own := [("land", 3)]) rfl sc_law.nd rfl rfl (sw_true rfl rfl rfl (by decide +kernel)) (pi_range1 (by rfl) T.Z_range (pa_cons pe_int pa_nil)) (blkOk_by (own := [("land", 3)]) (N := ["script", "dice", "rules", "land", "plan", "due", "turn", "some", "shares", "row", "kept", "found"]) (sc := defScope s_law) (by decide +kernel)) (fun _ _ _ _ _ => (pg_name (i := 3) sc_law.nd rfl (by first | exact Or.inl rfl | exact Or.inr rfl))) (fun _ _ _ _ _ => pts_nil) (fun _ _ _ _ _ => (pe_lc (own := [("plan", 4)]) rfl sc_law.nd (pi_range1 (by rfl) T.Z_range (pa_cons pe_int pa_nil)) (blkOk_in (own := [("plan", 4)]) (N := ["script", "dice", "rules", "land", "plan", "due", "turn", "some", "shares", "row", "kept", "found"]) (sc := ({ kind := PySem.ScopeKind.function, names := [ (PySem.Str.ofString ".0", PySem.NameKind.local), (PySem.Str.ofString "land", PySem.NameKind.cell), (PySem.Str.ofString "range", PySem.NameKind.globalImplicit), (PySem.Str.ofString "rules", PySem.NameKind.free)], isGenerator := false, isCoroutine := false, more := [] : PySem.Scope })) (by decide +kernel)) (fun _ _ _ _ _ => (pg_name (i := 4) sc_law.nd rfl (by first | exact Or.inl rfl | exact Or.inr rfl))) (fun _ _ _ _ _ => pts_nil) (fun _ _ _ _ _ => (pe_f (ok__law_share T) hr pn0 (pa_cons (pv 2) (pa_cons (pv 3) (pa_cons (pv 4) pa_nil))))))))
      (pss_cons (ps_if (PW.pt (pw_or (pt_cmpR (op_neD hr.units) (pe_f (ok_plain T) hr (pnx (L2N.takes_of rfl rfl rfl rfl)) (pa_cons (pv 2) pa_nil)) (pv 5) (nomark _)) (pw_or1 (pt_cmpR (op_neD hr.units) (pe_f (ok_plain T) hr (pnx (L2N.takes_of rfl rfl rfl rfl)) (pa_cons (pe_f (ok_joined T) hr (pnx (L2N.takes_of rfl rfl rfl rfl)) (pa_cons (pv 5) pa_nil)) pa_nil)) (pv 5) (nomark _))))) (pss_one (ps_ret pe_bl)) pss_nil)
      (pss_cons (ps_set (i := 7) sc_law.nd rfl (by first | exact Or.inl rfl | exact Or.inr rfl) (pe_op op_cat (pe_lst (pa_cons pe_int pa_nil)) (pe_lc (own := [("turn", 6)]) rfl sc_law.nd (pi_range1 (by rfl) T.Z_range (pa_cons (pe_op op_add pe_int (pe_f (ok__law_roll T) hr (pnx (L2N.takes_of rfl rfl rfl rfl)) (pa_cons (pv 1) (pa_cons pe_int pa_nil)))) pa_nil)) (blkOk_by (own := [("turn", 6)]) (N := ["script", "dice", "rules", "land", "plan", "due", "turn", "some", "shares", "row", "kept", "found"]) (sc := defScope s_law) (by decide +kernel)) (fun _ _ _ _ _ => (pg_name (i := 6) sc_law.nd rfl (by first | exact Or.inl rfl | exact Or.inr rfl))) (fun _ _ _ _ _ => pts_nil) (fun _ _ _ _ _ => (pe_f (ok__law_roll T) hr pn0 (pa_cons (pv 1) (pa_cons pe_int pa_nil)))))))
      (pss_cons (ps_setLc (i := 8) (own := [("land", 3)]) rfl sc_law.nd rfl rfl (sw_true rfl rfl rfl (by decide +kernel)) (pi_range1 (by rfl) T.Z_range (pa_cons pe_int pa_nil)) (blkOk_by (own := [("land", 3)]) (N := ["script", "dice", "rules", "land", "plan", "due", "turn", "some", "shares", "row", "kept", "found"]) (sc := defScope s_law) (by decide +kernel)) (fun _ _ _ _ _ => (pg_name (i := 3) sc_law.nd rfl (by first | exact Or.inl rfl | exact Or.inr rfl))) (fun _ _ _ _ _ => pts_nil) (fun _ _ _ _ _ => (pe_lc (own := [("plan", 4)]) rfl sc_law.nd (pi_range1 (by rfl) T.Z_range (pa_cons pe_int pa_nil)) (blkOk_in (own := [("plan", 4)]) (N := ["script", "dice", "rules", "land", "plan", "due", "turn", "some", "shares", "row", "kept", "found"]) (sc := ({ kind := PySem.ScopeKind.function, names := [ (PySem.Str.ofString ".0", PySem.NameKind.local), (PySem.Str.ofString "land", PySem.NameKind.local), (PySem.Str.ofString "range", PySem.NameKind.globalImplicit), (PySem.Str.ofString "dice", PySem.NameKind.free), (PySem.Str.ofString "some", PySem.NameKind.free)], isGenerator := false, isCoroutine := false, more := [] : PySem.Scope })) (by decide +kernel)) (fun _ _ _ _ _ => (pg_name (i := 4) sc_law.nd rfl (by first | exact Or.inl rfl | exact Or.inr rfl))) (fun _ _ _ _ _ => pts_nil) (fun _ _ _ _ _ => (pe_ix ix_list (pv 7) (pe_f (ok__law_roll T) hr pn0 (pa_cons (pv 1) (pa_cons (pe_callB call_len (by rfl) T.Z_len (by decide +kernel) (pa_cons (pv 7) pa_nil)) pa_nil))) (fun _ _ => rfl))))))
      (pss_cons (ps_setLc (i := 10) (own := [("row", 9)]) rfl sc_law.nd rfl rfl (sw_true rfl rfl rfl (by decide +kernel)) (pi_list (pv 8)) (blkOk_by (own := [("row", 9)]) (N := ["script", "dice", "rules", "land", "plan", "due", "turn", "some", "shares", "row", "kept", "found"]) (sc := defScope s_law) (by decide +kernel)) (fun _ _ _ _ _ => (pg_name (i := 9) sc_law.nd rfl (by first | exact Or.inl rfl | exact Or.inr rfl))) (fun _ _ _ _ _ => pts_nil) (fun _ _ _ _ _ => (pe_callTy call_list_of (by rfl) T.Z_list (by decide +kernel) (pa_cons (pv 9) pa_nil))))
      (pss_cons (ps_set (i := 11) sc_law.nd rfl (by first | exact Or.inl rfl | exact Or.inr rfl) (pe_f (ok_joined T) hr (pnx (L2N.takes_of rfl rfl rfl rfl)) (pa_cons (pv 8) pa_nil)))
      (pss_cons (ps_if (PW.pt (pw_or (pt_cmpR (op_neD hr.units) (pe_f (ok_plain T) hr (pnx (L2N.takes_of rfl rfl rfl rfl)) (pa_cons (pv 11) pa_nil)) (pv 8) (nomark _)) (pw_or (pt_cmpR (op_neD hr.units) (pv 8) (pv 10) (nomark _)) (pw_or1 (pt_cmpR op_gt (pe_callB call_len (by rfl) T.Z_len (by decide +kernel) (pa_cons (pv 11) pa_nil)) pe_int (nomark _)))))) (pss_one (ps_ret pe_bl)) pss_nil)
      (pss_one (ps_for (passes_of rfl) rfl (pi_list (pe_f0 (ok__law_kinds T) hr (pnx (L2N.takes_of rfl rfl rfl rfl)))) (pg_tup (by rfl) (pgs_cons (pg_name (i := 3) sc_law.nd rfl (by first | exact Or.inl rfl | exact Or.inr rfl)) (pgs_cons (pg_name (i := 4) sc_law.nd rfl (by first | exact Or.inl rfl | exact Or.inr rfl)) pgs_nil))) (pss_one (ps_if (pt_cmpR op_ne (pe_f (ok_share T) hr (pnx (L2N.takes_of rfl rfl rfl rfl)) (pa_cons (pv 11) (pa_cons (pe_tup (pa_cons (pe_f (ok__law_roll T) hr (pnx (L2N.takes_of rfl rfl rfl rfl)) (pa_cons (pv 1) (pa_cons (pe_op op_pow pe_int pe_int) pa_nil))) (pa_cons (pv 3) (pa_cons (pv 4) pa_nil)))) pa_nil))) (pe_ix ix_list (pe_ix ix_list (pv 8) (pv 3) (fun _ _ => rfl)) (pv 4) (fun _ _ => rfl)) (nomark _)) (pss_one (ps_ret pe_bl)) pss_nil)))))))))))))
      (pss_one (ps_ret pe_bl))), ?_⟩
    walk_at "0"
    walk_at "g"
    refine ⟨_, _, _, rfl, hS, by omega, by decide, by decide, fun L ds H1 s1 hL hds nL => ?_⟩
    walk_at "g"
    refine ⟨⟨_, lstOf hL⟩, ?_⟩
    refine rounds_go (n := 11) rfl hL (fun d h => (hds d h).2) (fun _ _ => q _) ?_
    intro w H2 d N hw hd hN
    match w, hw with
    | [w1, w2, w3, w4, w5, w6, w7, w8, w9, w10, w11], _ =>
    walk_at "c"
    walk_at "g"
    refine ⟨d, 2, rfl, by decide, by decide, hd, fun rv rs H3 b3 hrv hRG => ?_⟩
    refine w_seq (w_set (w_lc (w_rng1 (w_cons (w_c (w_nil ⟨_, rfl, by decide, by decide, ?_⟩))))))
    refine lc_mat K (k := 6) (n := 4) rfl rfl (by decide) (by decide) b3.d1 (fun l p x => x = shareL rs (l : Int) (p : Int)) (fun _ => rfl) (fun _ _ => rfl) (fun l p H' Qe hl hp b hQ => ?_) fun F as m H4 nF b4 nFd M hm6 hm4 hfr hP => ?_
    · walk_at "g"
      refine ⟨rv, rs, 0 + (l : Int), 0 + (p : Int), rfl, b.dp (by simp only [imm]; exact hRG.imm) hrv, hRG.ok, hRG.rules, fun H5 s5 => ?_⟩
      exact hQ _ _ (But.of b.d1 s5) (by rw [Int.zero_add, Int.zero_add])
    walk_at "c"
    have hrv4 := b4.dp (K := K) (by simp only [imm]; exact hRG.imm) hrv
    have hsh : ShM m := ⟨hm6, hm4, sh_cells hm6 hm4 fun l p h1 h2 => by rw [hP l p h1 h2]; exact shareL_bounds hRG.all⟩
    have hpl : PyData.list (plainD rs) = sharesD m := by
      rw [mat_eq hm6 hm4 hP]
      unfold sharesD plainD plainRow rowD
      rw [List.map_map]
      rfl
    walk_at "g"
    refine ⟨rv, _, rfl, hrv4, hRG.ok, fun ds hds _ P1 H5 s5 nP1 hP1 => ?_, fun z => absurd hRG.rules (by rw [z]; simp)⟩
    cases hds
    rw [hpl] at hP1
    walk_at "g"
    have hF5 : Dp K H5 (.ref F) (sharesD m) := dp_s s5 (M.dpn (K := K)).dp
    refine w_neD hP1 hF5 (gd_shares hsh).sh (gd_shares hsh).sh ?_
    rw [eqv_shares]
    walk_at "g"
    refine ⟨.ref F, _, rfl, hF5, fun m' hm' hs' vals u H6 s6 hv hu => ?_, fun z => absurd (isShares_mk hsh) (by rw [z]; simp)⟩
    cases sharesD_inj hm'
    have hvl : vals.length ≤ 6 := Nat.le_trans (hv.len (l := rs.map ruleM) fun x hx => by
      have hx0 := (hv.mem x).mp hx
      obtain ⟨r, hr, hxr⟩ := hx0.2
      have := sh_cells (P := fun x => x = 0 ∨ x ∈ rs.map ruleM) hm6 hm4 (fun l p h1 h2 => by rw [hP l p h1 h2]; exact shareL_mem hRG.all) r hr x hxr
      rcases this with z | z
      · omega
      · exact z) (by rw [List.length_map]; have := hRG.len; omega)
    walk_at "g"
    refine ⟨u, _, rfl, hu, ((hv.gd hsh (by omega)).mono (by decide)).ok, fun ds hds _ P2 H7 s7 nP2 hP2 => ?_, fun z => absurd (hv.rules hsh hvl) (by rw [z]; simp)⟩
    cases hds
    rw [hv.plain hsh] at hP2
    walk_at "g"
    refine w_neD hP2 (dp_s (s6.trans s7) hF5) (gd_shares hsh).sh (gd_shares hsh).sh ?_
    rw [eqv_shares]
    have b7 := (((b3.trans b4).same s5).same s6).same s7
    clear hP2 hu hv hvl hF5 hP1 hpl hsh hP hrv4 M hfr
    walk_at "g"
    refine w_newL (by simp) fun S0 H8 s8 nS0 hS0 => ?_
    have b8 := b7.same s8
    have nS0d : S0 ≠ d := b7.d1.ne nS0
    walk_at "g"
    refine ⟨d, 6, rfl, b8.d1, by decide, by decide, fun r H9 r0 r1 b9 => ?_⟩
    walk_at "g"
    refine ⟨by omega, by omega, ?_⟩
    obtain ⟨r, rfl⟩ := Int.eq_ofNat_of_zero_le r0
    have ern : (1 + (r : Int)).toNat = r + 1 := by omega
    rw [ern]
    have b29 := b8.trans b9
    refine lc_dice (K := K) walk_range (by omega) (fun j ds => ∃ ns : List Int, ds = ns.map PyData.int ∧ ns.length = j ∧ ∀ x ∈ ns, 0 ≤ x ∧ x ≤ 100) b29.d1 ⟨[], rfl, rfl, by simp⟩ (fun _ _ => trivial) ?_ ?_
    · rintro C j acc2 y G' G'' hC hj hacc2 hG' ⟨b2, nC, ds, h1, h2, ns, rfl, hnl, hnP⟩ ⟨rfl, rfl⟩
      walk_at "g"
      refine ⟨rfl, ?_⟩
      walk_at "g"
      refine ⟨d, 101, rfl, b2.d1, by decide, by decide, fun x H10 x0 x1 b10 => ?_⟩
      refine lcr_nx hC (by omega) hacc2 hG' b2 nC h1 h2 b10 (.int x) rfl ⟨ns ++ [x], by rw [List.map_append]; rfl, by simp [hnl], fun z hz => ?_⟩
      rcases List.mem_append.mp hz with hz | hz
      · exact hnP z hz
      · cases List.mem_singleton.mp hz
        omega
    rintro C acc2 ds Ha hC ba nC hCa h1 _ ⟨more, rfl, hml, hmb⟩
    have e := dpAll_intsV h1
    subst e
    have hS0a := ba.kp _ _ (b9.kp _ _ hS0 nS0d) nS0d
    refine w_catN hS0a hCa (by simp; omega) fun S Hb sb nS hSb => ?_
    have hSb : Hb S = some (.lst ((0 :: more).map V.int)) := hSb
    have bb := (b29.trans ba).same sb
    have nSd : S ≠ d := (b29.trans ba).d1.ne nS
    try walk_at "c"
    refine w_seq (w_set (w_lc (w_rng1 (w_cons (w_c (w_nil ⟨_, rfl, by decide, by decide, ?_⟩))))))
    refine lc_mat K (k := 6) (n := 4) rfl rfl (by decide) (by decide) bb.d1 (fun l p x => x ∈ 0 :: more) (fun _ => rfl) (fun _ _ => rfl) (fun l p H' Qe hl hp b hQ => ?_) fun F2 as2 m2 Hc nF2 bc nF2d M2 hm6' hm4' hfr2 hP2 => ?_
    · walk_at "g"
      have hS' := b.kp _ _ hSb nSd
      refine w_lenL (lstOf hS') ?_
      rw [List.length_map]
      walk_at "g"
      refine ⟨d, ((0 :: more).length : Nat), rfl, b.d1, by simp only [List.length_cons]; omega, by simp only [List.length_cons]; omega, fun x Hx x0 x1 bx => ?_⟩
      obtain ⟨x, rfl⟩ := Int.eq_ofNat_of_zero_le x0
      have hxl : x < (0 :: more).length := by omega
      refine w_ixL (lstOf (bx.kp _ _ hS' nSd)) (at_of (j := x) rfl (by rw [List.getElem?_map, List.getElem?_eq_getElem hxl]; rfl)) ?_
      exact hQ _ _ bx (List.getElem_mem hxl)
    have hsh2 : ShM m2 := ⟨hm6', hm4', sh_cells hm6' hm4' fun l p h1 h2 => by
      rcases List.mem_cons.mp (hP2 l p h1 h2) with z | z
      · rw [z]
        decide
      · exact hmb _ z⟩
    try walk_at "c"
    walk_at "p"
    refine w_lc (w_iList (w_var rfl ⟨F2, rfl, ⟨_, lstOf M2.lst⟩, ?_⟩))
    refine lc_copy (K := K) M2 (by omega) (fun _ => rfl) (fun _ => rfl) fun C2 cs Hd nC2 sd Md hnd hfr3 => ?_
    try walk_at "c"
    have M2d := M2.s sd
    have hF2 : Dp K Hd (.ref F2) (sharesD m2) := (M2d.dpn (K := K)).dp
    have hC2 : Dp K Hd (.ref C2) (sharesD m2) := (Md.dpn (K := K)).dp
    walk_at "g"
    refine ⟨.ref F2, _, rfl, hF2, fun m' hm' hs' vals u He se hv hu => ?_, fun z => absurd (isShares_mk hsh2) (by rw [z]; simp)⟩
    cases sharesD_inj hm'
    have hvl : vals.length ≤ 6 := Nat.le_trans (hv.len (l := more) fun x hx => by
      have hx0 := (hv.mem x).mp hx
      obtain ⟨r, hr, hxr⟩ := hx0.2
      have := sh_cells (P := fun x => x ∈ 0 :: more) hm6' hm4' hP2 r hr x hxr
      rcases List.mem_cons.mp this with z | z
      · omega
      · exact z) (by omega)
    have gU := (hv.gd hsh2 (by omega)).mono (m := 64) (by decide)
    have aU := hv.rules hsh2 hvl
    walk_at "g"
    refine ⟨u, _, rfl, hu, gU.ok, fun ds hds _ P2 Hf sf nP2 hPf => ?_, fun z => absurd aU (by rw [z]; simp)⟩
    cases hds
    rw [hv.plain hsh2] at hPf
    walk_at "g"
    have sdf := se.trans sf
    refine w_neD hPf (dp_s sdf hF2) (gd_shares hsh2).sh (gd_shares hsh2).sh ?_
    rw [eqv_shares]
    walk_at "g"
    refine w_neD (dp_s sdf hF2) (dp_s sdf hC2) (gd_shares hsh2).sh (gd_shares hsh2).sh ?_
    rw [eqv_shares]
    have huf := dp_s sf hu
    walk_at "g"
    refine w_lenD huf ?_
    walk_at "g"
    rw [show decide (6 < (((joinedL m2 vals).length : Nat) : Int)) = false from decide_eq_false (by simp only [joinedL, List.length_map]; omega)]
    walk_at "g"
    have bf := ((bb.trans bc).same sd).same sdf
    have Mf := M2d.s sdf
    refine ⟨rfl, fun Lk xs Hg sg nLk hLk hxs => ?_⟩
    have bg := bf.same sg
    have Mg := Mf.s sg
    have hug := dp_s sg huf
    have nLkd : Lk ≠ d := bf.d1.ne nLk
    have hl24 := dpAll_len hxs
    walk_at "g"
    refine ⟨⟨_, lstOf hLk⟩, ?_⟩
    have hasd : ∀ b ∈ as2, b ≠ d := fun b hb => (hfr2 b hb).2.2
    refine for_go (walk_list (K := K) (a := Lk) (xs := xs)) (fun i σ H' => (∃ x3 x4, σ = [some (.ref a), some (.ref d), some rv, x3, x4, some (.ref F), w6, some (.ref S), some (.ref F2), w9, some (.ref C2), some u]) ∧ But d Hg H') ⟨⟨_, _, rfl⟩, But.refl bg.d1⟩ (fun _ _ H' _ h => lstOf (h.2.kp _ _ hLk nLkd)) ?_ ?_
    · rintro i x σ Hh' Hh hi ⟨⟨x3, x4, rfl⟩, bh⟩ ⟨rfl, hxi⟩
      obtain ⟨k, ka, hk, rfl, hks⟩ := getElem?_kd hxs hxi
      have hkb := kindL_bd k (List.mem_of_getElem? hk)
      obtain ⟨l, hl⟩ := Int.eq_ofNat_of_zero_le hkb.1
      obtain ⟨p, hp⟩ := Int.eq_ofNat_of_zero_le hkb.2.2.1
      refine w_gtup (bh.tup hks) rfl ?_
      walk_at "g"
      refine w_I ⟨by decide, by decide, by decide⟩ ?_
      walk_at "g"
      refine ⟨d, _, rfl, bh.d1, by decide, by decide, fun z Hi z0 z1 bi => ?_⟩
      walk_at "g"
      refine w_newT (by simp) fun tt Hj sj ntt htt => ?_
      have bhj := (bh.trans bi).same sj
      have huj := bhj.dp (K := K) (by simp only [imm]; exact hv.imm hsh2) hug
      have hz : z ≤ 1000000000000 := by
        have : (10 : Int) ^ (12 : Int).toNat = 1000000000000 := by decide
        omega
      have hus := isUser_mk z0 hz hkb.1 hkb.2.1 hkb.2.2.1 hkb.2.2.2
      walk_at "g"
      refine ⟨u, .ref tt, _, _, rfl, huj, .tup (tupOf htt) (.cons (.int _) (.cons (.int _) (.cons (.int _) .nil))), gU.ok, fun _ _ Hk sk => ?_, fun z => absurd aU (by rw [z]; simp), fun _ z => absurd hus (by rw [z]; simp)⟩
      have bhk := bhj.same sk
      have Mk : MatAt Hk F2 as2 m2 := Mg.keep fun b xs hb h => bhk.kp _ _ h (by
        rcases hb with rfl | hb
        · exact nF2d
        · exact hasd b hb)
      walk_at "g"
      have hlm : l < m2.length := by omega
      have h4 := hm4' m2[l] (List.getElem_mem hlm)
      have hla : l < as2.length := by rw [Mk.len]; omega
      have hpm : p < m2[l].length := by omega
      refine w_ixL (lstOf Mk.lst) (at_of (j := l) hl (by rw [List.getElem?_map, List.getElem?_eq_getElem hla]; rfl)) ?_
      walk_at "g"
      refine w_ixL (lstOf (Mk.row l as2[l] m2[l] (List.getElem?_eq_getElem hla) (List.getElem?_eq_getElem hlm))) (at_of (j := p) hp (by rw [List.getElem?_map, List.getElem?_eq_getElem hpm]; rfl)) ?_
      have hse : shareD (.tuple (joinedL m2 vals)) (landD (.tuple [.int z, .int k.1, .int k.2])) (planD (.tuple [.int z, .int k.1, .int k.2])) = m2[l][p] := by
        show shareL (joinedL m2 vals) k.1 k.2 = _
        rw [hl, hp, hv.share hsh2 (by omega) (by omega), getD_at hlm, getD_at hpm]
      rw [hse]
      walk_at "g"
      rw [decide_eq_true rfl]
      walk_at "g"
      exact ⟨⟨_, _, rfl⟩, bhk⟩
    · rintro σ Hh ⟨⟨x3, x4, rfl⟩, bh⟩
      exact hN _ _ rfl (bg.trans bh)
end
end RG
namespace RG
open PySem PySem.Spec PyProof.Rows L2
abbrev lvl : Nat := 15
theorem law_at {K : PySem.W.Frag} {h : Heap} {mg : Str → Option Value} {w : World} {fa : Addr} (X : K.In h) (G : h.Ns mainGlobals mg) (c : He.SaysX fal fnl [] tfl exl w h K) (hmg : mg ("law" : Str) = some (.ref fa)) :
    LamX.LawAtS PySem.Challenge.rw_rollgates_k22_whole_plain_and_joined w K (CXN PySem.Challenge.pw_rollgates_k22_whole_plain_and_joined w) lvl 63 "script" mg fa h := by
  have T := tx_mk X G c
  have e := hmg.symm.trans T.G_law
  cases e
  have ok : ∀ base : Heap, Ok PySem.Challenge.pw_rollgates_k22_whole_plain_and_joined w K mg base lvl "law" ["script"] (spLaw K) := fun base => ok_law T
  obtain ⟨_, _, fd, fe, b, _⟩ := ok h
  refine ⟨fd, [], spLaw K, fun _ z => (by cases z), fun _ z => (by cases z), fun _ z => (by cases z), fun s u => b s [u] rfl, fun H a ns hl _ _ hS => ⟨a, ns, rfl, hS, hl, fun _ => rfl⟩, fun base _ _ _ => ?_⟩
  obtain ⟨_, _, fd2, fe2, _, F2⟩ := ok base
  have e2 := fe.symm.trans fe2
  cases e2
  exact F2
end RG

open PySem PySem.W PySem.Calls PyProof.Rows
set_option maxRecDepth 100000 in
set_option maxHeartbeats 0 in
theorem PySem.Challenge.cw_rollgates_k22_whole_plain_and_joined_holds : PySem.Challenge.rw_rollgates_k22_whole_plain_and_joined.Holds := by
  w_on; o_law
  refine HandSHeadRun.head_any (r := PySem.W.OpenLaw.row PySem.Challenge.rw_rollgates_k22_whole_plain_and_joined) (q := view (PySem.W.OpenLaw.row PySem.Challenge.rw_rollgates_k22_whole_plain_and_joined).prog [39]) (H := RG.hkl) (ob := RG.obl) (M := 4220) (loose := RG.nml) (d := HandSHeadRun.topDef (PySem.W.OpenLaw.row PySem.Challenge.rw_rollgates_k22_whole_plain_and_joined).prog 39) (kwd := []) RG.obl_eq
    (by kernel_rfl) (fun s => by kernel_rfl) RG.runl (by kernel_rfl) (by kernel_rfl) (by kernel_rfl) (by rfl) (by first | assumption | decide +kernel) (by decide +kernel) ⟨rfl, rfl, rfl, rfl, rfl, by decide +kernel⟩ ?hw ?hc
  case hw => w_witness2
  case hc =>
    refine LamX.walk_ofTsE (l := PySem.Challenge.rw_rollgates_k22_whole_plain_and_joined) (n := 63) (k := RG.lvl) (x := "script") (CX := fun w => RG.CXN PySem.Challenge.pw_rollgates_k22_whole_plain_and_joined w) rfl (by decide) (by kernel_rfl) ⟨rfl, by decide, by decide⟩ ?F ?X
    case X =>
      intro w H s e s' z
      obtain ⟨_, _, _, _, _, _, _, _, _, _, _, _, z⟩ := z
      exact z
    case F =>
      intro w mg fa h Y G hmg0
      obtain ⟨K, KX, c⟩ := Y
      have hmg : mg ("law" : PySem.Str) = some (.ref fa) := by
        have e : (HandSHeadRun.topDef (PySem.W.OpenLaw.row PySem.Challenge.rw_rollgates_k22_whole_plain_and_joined).prog 39).name = ("law" : PySem.Str) := by kernel_rfl
        rw [← e]
        exact hmg0
      exact ⟨K, KX, RG.law_at KX G c hmg⟩

