import PyProof.Rows.All
import Wide.All
import OpenK.AllK
import Wide.FinOn
import KE.KStateDown
import HandS.ForMost
import HandS.ForExc
import HandS.Defaults
import HandS.Lambda
import HandS.EndTab
import HandS.HeadWalk
import HandS.Head0
import HandS.Head1
import HandS.Head2
import HandS.HeadEnd
import HandS.HeadHook1
import HandS.HeadHook2
import HandS.HeadHook3
import HandS.HeadHook4
import HandS.ExcCtx
import HandS.HotCalls
import HandS.IsInst
import HandS.Wide
import HandS.Walk
import HandS.Zip
import HandS.Conv
import HandS.SortInts
import HandS.TupAny
import HandS.Deep
import HandS.Style
import KE.GoesEnum
import KE.GoesMore
import PySem.Challenge.RW_rollgates_k61_whole_who_loses
set_option Elab.async false
set_option linter.all false
set_option maxRecDepth 100000
set_option maxHeartbeats 4000000
/-! ### RG core: what every law's proof leans on (own words over the hand layer) -/
namespace RG
open PySem PySem.Spec PyProof.Rows L2

/-! a def of the top, kept by its promise -/
abbrev CXN (P : Program) (w : World) : CXT := L2N.CX P w
/-- every parameter is given, whatever the heap -/
def BindsE (fd : FuncData) (ps : List Str) : Prop := ∀ (s : Shared) (us : List Value), us.length = ps.length → BindsTo s fd ⟨us, []⟩ (ps.zip us)
theorem BindsE.binds {K : PySem.W.Frag} {fd : FuncData} {ps : List Str} (b : BindsE fd ps) : Binds K fd ps [] := fun s us _ hl => by
  rw [List.append_nil] at hl ⊢
  exact b s us hl
def fdAt (K : PySem.W.Frag) (a : Addr) : Option FuncData := match K.lookup a with
  | some ⟨_, _, .func fd, _⟩ => some fd
  | _ => none
structure Ok (P : Program) (w : World) (K : PySem.W.Frag) (mg : Str → Option Value) (base : Heap) (k : Nat) (x : Str) (ps : List Str) (sp : Sp) : Prop where
  gl : mg x = some (.ref (He.ga K x))
  kp : PySem.W.keepIn K (.ref (He.ga K x)) = true
  ex : ∃ fd, fdAt K (He.ga K x) = some fd ∧ BindsE fd ps ∧ FnOk P w K mg base (CXN P w) k (He.ga K x) fd ps sp
/-- how a text's arguments bind when all are given -/
def BindAll (x : Str) (st : Stmt) (ps : List Str) : Prop := ∀ (kV doc pm : Value) (an : Option Addr) (cdv ct : Value) (us : List Value), us.length = ps.length →
  bindArgs (PySem.W.fnOf x x (defArgs st) (defBody st) (defScope st) .none kV doc pm an cdv ct) ⟨us, []⟩ = pure (ps.zip us)
abbrev FnAt (K : PySem.W.Frag) (x : Str) (st : Stmt) : Prop := ∃ fd, FunD K x x (defArgs st) (defBody st) (defScope st) [] [] (He.ga K x) fd
section
variable {P : Program} {w : World} {K : PySem.W.Frag} {mg : Str → Option Value} {base : Heap}
theorem Ok.mk' {x : Str} {st : Stmt} {N ps : List Str} {k : Nat} {sp : Sp} (G : mg x = some (.ref (He.ga K x))) (F : FnAt K x st) (b : BindAll x st ps) (S : FnScope N ps (defScope st)) (len : ∀ vs H Q E, sp vs H Q E → vs.length = ps.length)
    (body : ∀ (cdv : Value) (A : Around) (outer : List Env) (s : Shared) (H : Hp) (vs : List V) (Q : VK) (E : XK), Room k (A.deeper (envOfC x (defScope st) s.heap.objs.size (He.ga K x) cdv)) → sp vs H Q E →
      ∃ t, PSs (cxOf (CXN P w) P w K mg base N x (defScope st) (He.ga K x) cdv A outer s H E) (defBody st) t ∧ t { nx := fun _ H' => Q .non H', rt := Q } (start N vs) H) : Ok P w K mg base (k + 1) x ps sp := by
  obtain ⟨fd, F⟩ := F
  have e : fdAt K (He.ga K x) = some fd := by
    obtain ⟨oc, od, dV, kV, doc, pm, an, cdv, ct, osl, rfl, lk, _⟩ := F.ex
    unfold fdAt
    rw [lk]
  exact ⟨G, F.kp, fd, e, F.bindsA b, F.ok S len body⟩
theorem Ok.mono {x : Str} {ps : List Str} {j k : Nat} {sp : Sp} (G : Ok P w K mg base j x ps sp) (h : j ≤ k) : Ok P w K mg base k x ps sp := by
  obtain ⟨g, kp, fd, fe, b, F⟩ := G
  exact ⟨g, kp, fd, fe, b, F.mono h⟩
theorem Ok.imp {x : Str} {ps : List Str} {k : Nat} {sp sp' : Sp} (G : Ok P w K mg base k x ps sp) (h : ∀ vs H Q E, sp' vs H Q E → sp vs H Q E) : Ok P w K mg base k x ps sp' := by
  obtain ⟨g, kp, fd, fe, b, F⟩ := G
  exact ⟨g, kp, fd, fe, b, F.imp h⟩
end
section
variable {X : Cx}
/-- nothing is let out -/
theorem pn0 : Passes (CXN X.prog X.w) X E0 := fun _ _ _ _ _ _ _ h => by
  obtain ⟨_, _, _, _, _, _, _, _, _, _, _, _, z⟩ := h
  exact z.elim
/-- what a callee lets out leaves this def too -/
theorem pnx {E : XK} (tk : L2N.Takes X (fun cls d _ H => E cls d H)) : Passes (CXN X.prog X.w) X E := L2N.passes_call tk fun _ _ _ _ h => h
/-- f(e, ..) of an own def -/
theorem pe_f {j k : Nat} {x : Str} {ps : List Str} {sp : Sp} {E : XK} {p pos : Pos} {e : Expr} {es : List Expr} {t : TA} (G : Ok X.prog X.w X.K X.mg X.base j x ps sp) (hr : Room k X.A) (hx : Passes (CXN X.prog X.w) X E) (ha : PA X (e :: es) t)
    (hk : j ≤ k := by first | decide | omega) (hg : Gl X x := by rfl) (hdb : (x == ("__debug__" : Str)) = false := by decide)
    (he : starEach (e :: es) X.env = (false, eval e X.env) :: starEach es X.env := by rfl) (hpl : (backTo pos (starEach es X.env)).any (·.1) = false := by rfl) :
    PE X (.Call (.Name x p) (e :: es) [] pos) (tCall sp [] E t) := by
  obtain ⟨g, kp, fd, fe, b, F⟩ := G
  exact pe_call F (hr.mono hk) hg g kp b.binds .nil hx ha hdb he hpl
/-- f() -/
theorem pe_f0 {j k : Nat} {x : Str} {ps : List Str} {sp : Sp} {E : XK} {p pos : Pos} (G : Ok X.prog X.w X.K X.mg X.base j x ps sp) (hr : Room k X.A) (hx : Passes (CXN X.prog X.w) X E)
    (hk : j ≤ k := by first | decide | omega) (hg : Gl X x := by rfl) (hdb : (x == ("__debug__" : Str)) = false := by decide) :
    PE X (.Call (.Name x p) [] [] pos) (tCall sp [] E tNil) := by
  obtain ⟨g, kp, fd, fe, b, F⟩ := G
  exact pe_call0 F (hr.mono hk) hg g kp b.binds .nil hx hdb
/-- a constant of the module -/
theorem pe_gi {x : Str} {i : Int} {pos : Pos} (h : ∃ t, X.mg x = some (.int i t)) (hg : Gl X x := by rfl) (hd : (x == ("__debug__" : Str)) = false := by decide) : PE X (.Name x pos) (tC (.int i)) := by
  obtain ⟨t, h⟩ := h
  exact pe_glob hg h ⟨t, rfl⟩ hd
theorem pe_gs {x z : Str} {pos : Pos} (h : ∃ t, X.mg x = some (.str z t)) (hg : Gl X x := by rfl) (hd : (x == ("__debug__" : Str)) = false := by decide) : PE X (.Name x pos) (tC (.str z)) := by
  obtain ⟨t, h⟩ := h
  exact pe_glob hg h ⟨t, rfl⟩ hd
end
/-- what is known of an own exception class without __init__ -/
structure Exn (K : PySem.W.Frag) (mg : Str → Option Value) (x : Str) : Prop where
  gl : mg x = some (.ref (He.ga K x))
  ok : (He.Fa.exc x).ok K = true
/-- raise X('..') -/
theorem ps_rz {X : Cx} {E : XK} {x m : Str} {j : Nat} {p p2 pos pos' : Pos} (T : Exn X.K X.mg x) (tk : L2N.Takes X (fun cls d _ H => E cls d H)) (hc : X.calm = true := by rfl) (hg : Gl X x := by rfl) (hdb : (x == ("__debug__" : Str)) = false := by decide) :
    PS X (.Raise (some (.Call (.Name x p) [.Constant (.str m) j p2] [] pos)) none pos') (fun _ _ H => E (.ref (He.ga X.K x)) none H) := by
  obtain ⟨a, b, c, d⟩ := He.exc_ok T.ok
  exact L2N.ps_raise hc tk (L2N.pmk_own PySem.F.excBase_ValueError a T.gl b (raises_own c d) hg hdb)

/-! heaps -/
theorem Same.new {H : Hp} {p : Addr} {o : HO} (h : H p = none) : Same H (upd H p o) := fun a u e => by
  rw [upd_ne (ne_of_none e h)]
  exact e
theorem Same.tup {K : PySem.W.Frag} {H H' : Hp} {a : Addr} {xs : List V} (e : Same H H') (h : SqT K H a xs) : SqT K H' a xs := by
  rcases h with (h | ⟨o, h⟩) | h
  · exact .inl (.inl (e _ _ h))
  · exact .inl (.inr ⟨o, e _ _ h⟩)
  · exact .inr h
theorem tup_s {K : PySem.W.Frag} {H H' : Hp} {a : Addr} {xs : List V} (e : Same H H') (h : SqT K H a xs) : SqT K H' a xs := Same.tup e h
theorem tupOf {K : PySem.W.Frag} {H : Hp} {a : Addr} {xs : List V} (h : H a = some (.tup xs)) : SqT K H a xs := .inl (.inl h)
theorem lstOf {K : PySem.W.Frag} {H : Hp} {a : Addr} {xs : List V} (h : H a = some (.lst xs)) : SqL K H a xs := .inl (.inl h)
/-- the dice: a list of two ints -/
def Dice (H : Hp) (a : Addr) : Prop := ∃ x k : Int, H a = some (.lst [.int x, .int k])
/-- all but the dice at a is as it was -/
structure But (a : Addr) (H H' : Hp) : Prop where
  d0 : Dice H a
  d1 : Dice H' a
  kp : ∀ b o, H b = some o → b ≠ a → H' b = some o
theorem Dice.same {H H' : Hp} {a : Addr} (d : Dice H a) (s : Same H H') : Dice H' a := by
  obtain ⟨x, k, h⟩ := d
  exact ⟨x, k, s _ _ h⟩
theorem Dice.ne {H : Hp} {a p : Addr} (d : Dice H a) (h : H p = none) : p ≠ a := by
  obtain ⟨x, k, h1⟩ := d
  exact (ne_of_none h1 h).symm
theorem But.refl {a : Addr} {H : Hp} (d : Dice H a) : But a H H := ⟨d, d, fun _ _ h _ => h⟩
theorem But.same {a : Addr} {H H1 H2 : Hp} (b : But a H H1) (s : Same H1 H2) : But a H H2 := ⟨b.d0, b.d1.same s, fun c o h n => s c o (b.kp c o h n)⟩
theorem But.of {a : Addr} {H H1 : Hp} (d : Dice H a) (s : Same H H1) : But a H H1 := (But.refl d).same s
theorem But.trans {a : Addr} {H H1 H2 : Hp} (b : But a H H1) (c : But a H1 H2) : But a H H2 := ⟨b.d0, c.d1, fun d o h n => c.kp d o (b.kp d o h n) n⟩
theorem But.new {a : Addr} {H H1 : Hp} {p : Addr} {o : HO} (b : But a H H1) (h : H1 p = none) : But a H (upd H1 p o) := b.same (Same.new h)
theorem But.free {a : Addr} {H H1 : Hp} {p : Addr} (b : But a H H1) (h : H1 p = none) : H p = none := by
  cases e : H p with
  | none => rfl
  | some o =>
    by_cases hp : p = a
    · subst hp
      exact absurd rfl (b.d1.ne h)
    · rw [b.kp p o e hp] at h
      cases h
/-- a change of an object that H does not know -/
theorem But.mut {a : Addr} {H H1 : Hp} {p : Addr} {o : HO} (b : But a H H1) (h : H p = none) (np : p ≠ a) : But a H (upd H1 p o) := by
  refine ⟨b.d0, ?_, fun c u e n => ?_⟩
  · obtain ⟨x, k, h1⟩ := b.d1
    exact ⟨x, k, by rw [upd_ne np.symm]; exact h1⟩
  · rw [upd_ne (ne_of_none e h)]
    exact b.kp c u e n
theorem But.tup {K : PySem.W.Frag} {a : Addr} {H H' : Hp} {b : Addr} {xs : List V} (e : But a H H') (h : SqT K H b xs) : SqT K H' b xs := by
  obtain ⟨x, k, hd⟩ := e.d0
  rcases h with (h | ⟨o, h⟩) | h
  · exact .inl (.inl (e.kp _ _ h fun z => by subst z; rw [hd] at h; cases h))
  · exact .inl (.inr ⟨o, e.kp _ _ h fun z => by subst z; rw [hd] at h; cases h⟩)
  · exact .inr h
/-- a change of a list never bears on a tuple -/
theorem tup_mut {K : PySem.W.Frag} {H : Hp} {a p : Addr} {o : HO} {xs ys : List V} (hp : H p = some (.lst ys)) (h : SqT K H a xs) : SqT K (upd H p o) a xs := by
  rcases h with (h | ⟨u, h⟩) | h
  · exact .inl (.inl (by rw [upd_ne (ne_of h hp (by intro z; cases z))]; exact h))
  · exact .inl (.inr ⟨u, by rw [upd_ne (ne_of h hp (by intro z; cases z))]; exact h⟩)
  · exact .inr h
theorem sz {n : Nat} (h : n ≤ 100000) : n ≤ sizeLine := Nat.le_trans h (by decide)
theorem szl {n : Nat} (h : n < 100000) : n < sizeLine := Nat.lt_of_lt_of_le h (by decide)
theorem if_t {c : Bool} {A B : Prop} (hc : c = true) (h : A) : if c = true then A else B := by
  rw [if_pos hc]
  exact h
theorem if_f {c : Bool} {A B : Prop} (hc : c = false) (h : B) : if c = true then A else B := by
  rw [hc, if_neg Bool.false_ne_true]
  exact h
theorem if_b {c : Bool} {A B : Prop} (h1 : c = true → A) (h2 : c = false → B) : if c = true then A else B := by
  cases c with
  | true => exact if_t rfl (h1 rfl)
  | false => exact if_f rfl (h2 rfl)
end RG
/-! ### data -/
namespace RG
open PySem PySem.Spec PyProof.Rows L2
mutual
theorem Same.dp {K : PySem.W.Frag} {H H' : Hp} (s : Same H H') : ∀ {v : V} {d : PyData}, Dp K H v d → Dp K H' v d
  | _, _, .non => .non
  | _, _, .bl b => .bl b
  | _, _, .int i => .int i
  | _, _, .str x => .str x
  | _, _, .lst h a => .lst (s.seq h) (Same.dpAll s a)
  | _, _, .tup h a => .tup (RG.Same.tup s h) (Same.dpAll s a)
theorem Same.dpAll {K : PySem.W.Frag} {H H' : Hp} (s : Same H H') : ∀ {vs : List V} {ds : List PyData}, DpAll K H vs ds → DpAll K H' vs ds
  | _, _, .nil => .nil
  | _, _, .cons a b => .cons (Same.dp s a) (Same.dpAll s b)
end
theorem dp_s {K : PySem.W.Frag} {H H' : Hp} {v : V} {d : PyData} (e : Same H H') (h : Dp K H v d) : Dp K H' v d := Same.dp e h
theorem dps_s {K : PySem.W.Frag} {H H' : Hp} {v : List V} {d : List PyData} (e : Same H H') (h : DpAll K H v d) : DpAll K H' v d := Same.dpAll e h
mutual
/-- no list, no dict within -/
def imm : PyData → Bool
  | .none => true
  | .bool _ => true
  | .int _ => true
  | .str _ => true
  | .tuple xs => immAll xs
  | .list _ => false
  | .dict _ => false
def immAll : List PyData → Bool
  | [] => true
  | x :: xs => imm x && immAll xs
end
mutual
theorem But.dp {K : PySem.W.Frag} {a : Addr} {H H' : Hp} (s : But a H H') : ∀ {v : V} {d : PyData}, imm d = true → Dp K H v d → Dp K H' v d
  | _, _, _, .non => .non
  | _, _, _, .bl b => .bl b
  | _, _, _, .int i => .int i
  | _, _, _, .str x => .str x
  | _, _, i, .lst h a => by simp [imm] at i
  | _, _, i, .tup h a => .tup (s.tup h) (But.dpAll s (by simpa [imm] using i) a)
theorem But.dpAll {K : PySem.W.Frag} {a : Addr} {H H' : Hp} (s : But a H H') : ∀ {vs : List V} {ds : List PyData}, immAll ds = true → DpAll K H vs ds → DpAll K H' vs ds
  | _, _, _, .nil => .nil
  | _, _, i, .cons a b => by
    simp [immAll] at i
    exact .cons (But.dp s i.1 a) (But.dpAll s i.2 b)
end
theorem dpAll_len {K : PySem.W.Frag} {H : Hp} : ∀ {vs : List V} {ds : List PyData}, DpAll K H vs ds → vs.length = ds.length
  | _, _, .nil => rfl
  | _, _, .cons _ b => by simp [dpAll_len b]
theorem dpAll_get {K : PySem.W.Frag} {H : Hp} : ∀ {vs : List V} {ds : List PyData} {i : Nat} {d : PyData}, DpAll K H vs ds → ds[i]? = some d → ∃ v, vs[i]? = some v ∧ Dp K H v d
  | _, _, _, _, .nil, e => by simp at e
  | _, _, 0, _, .cons a _, e => by
    simp at e
    subst e
    exact ⟨_, rfl, a⟩
  | _, _, i + 1, d, .cons _ b, e => by
    obtain ⟨v, h1, h2⟩ := dpAll_get (i := i) (d := d) b (by simpa using e)
    exact ⟨v, by simpa using h1, h2⟩
theorem dpAll_getV {K : PySem.W.Frag} {H : Hp} : ∀ {vs : List V} {ds : List PyData} {i : Nat} {v : V}, DpAll K H vs ds → vs[i]? = some v → ∃ d, ds[i]? = some d ∧ Dp K H v d
  | _, _, _, _, .nil, e => by simp at e
  | _, _, 0, _, .cons a _, e => by
    simp at e
    subst e
    exact ⟨_, rfl, a⟩
  | _, _, i + 1, d, .cons _ b, e => by
    obtain ⟨v, h1, h2⟩ := dpAll_getV (i := i) b (by simpa using e)
    exact ⟨v, by simpa using h1, h2⟩
theorem dpAll_app {K : PySem.W.Frag} {H : Hp} : ∀ {vs us : List V} {ds es : List PyData}, DpAll K H vs ds → DpAll K H us es → DpAll K H (vs ++ us) (ds ++ es)
  | _, _, _, _, .nil, h => h
  | _, _, _, _, .cons a b, h => .cons a (dpAll_app b h)
theorem dpAll_ints {K : PySem.W.Frag} {H : Hp} : ∀ ns : List Int, DpAll K H (ns.map V.int) (ns.map PyData.int)
  | [] => .nil
  | n :: ns => .cons (.int n) (dpAll_ints ns)
def tyD : PyData → String
  | .none => "NoneType"
  | .bool _ => "bool"
  | .int _ => "int"
  | .str _ => "str"
  | .list _ => "list"
  | .tuple _ => "tuple"
  | .dict _ => "dict"
theorem dpAll_intsV {K : PySem.W.Frag} {H : Hp} : ∀ {ns : List Int} {vs : List V}, DpAll K H vs (ns.map PyData.int) → vs = ns.map V.int
  | [], _, .nil => rfl
  | n :: ns, _, .cons a b => by
    cases a
    rw [dpAll_intsV b]
    rfl
theorem dp_ty {K : PySem.W.Frag} {H : Hp} {v : V} {d : PyData} (h : Dp K H v d) : TyX K H v (.type (tyD d)) := by
  cases h with
  | non => exact .base .non
  | bl b => exact .base (.bl b)
  | int i => exact .base (.int i)
  | str x => exact .base (.str x)
  | lst h a =>
    rcases h with (h | ⟨o, h⟩) | ⟨o, its, n, h1, h2, _⟩
    · exact .base (.lst h)
    · exact .base (.frz h)
    · exact .kList h1 h2
  | tup h a =>
    rcases h with (h | ⟨o, h⟩) | ⟨o, its, n, h1, h2, _⟩
    · exact .base (.tup h)
    · exact .fTuple h
    · exact .kTuple h1 h2
def isIntD : PyData → Bool
  | .int _ => true
  | .bool _ => true
  | _ => false
def isBoolD : PyData → Bool
  | .bool _ => true
  | _ => false
def isTupD : PyData → Bool
  | .tuple _ => true
  | _ => false
def isStrD : PyData → Bool
  | .str _ => true
  | _ => false
def isListD : PyData → Bool
  | .list _ => true
  | _ => false
section
variable {K : PySem.W.Frag} {H : Hp} {v : V} {d : PyData} {Q : VK}
theorem isi_int (h : Dp K H v d) (q : Q (.bl (isIntD d)) H) : rIsi K [v, .ty "int"] H Q := by
  refine ⟨v, _, _, _, isIntD d, rfl, .ty _, dp_ty h, ?_, q⟩
  cases d <;> exact kit_ty (by kernel_rfl)
theorem isi_bool (h : Dp K H v d) (q : Q (.bl (isBoolD d)) H) : rIsi K [v, .ty "bool"] H Q := by
  refine ⟨v, _, _, _, isBoolD d, rfl, .ty _, dp_ty h, ?_, q⟩
  cases d <;> exact kit_ty (by kernel_rfl)
theorem isi_tuple (h : Dp K H v d) (q : Q (.bl (isTupD d)) H) : rIsi K [v, .ty "tuple"] H Q := by
  refine ⟨v, _, _, _, isTupD d, rfl, .ty _, dp_ty h, ?_, q⟩
  cases d <;> exact kit_ty (by kernel_rfl)
theorem isi_str (h : Dp K H v d) (q : Q (.bl (isStrD d)) H) : rIsi K [v, .ty "str"] H Q := by
  refine ⟨v, _, _, _, isStrD d, rfl, .ty _, dp_ty h, ?_, q⟩
  cases d <;> exact kit_ty (by kernel_rfl)
theorem isi_list (h : Dp K H v d) (q : Q (.bl (isListD d)) H) : rIsi K [v, .ty "list"] H Q := by
  refine ⟨v, _, _, _, isListD d, rfl, .ty _, dp_ty h, ?_, q⟩
  cases d <;> exact kit_ty (by kernel_rfl)
theorem dp_tuple {ds : List PyData} (h : Dp K H v (.tuple ds)) : ∃ a xs, v = .ref a ∧ SqT K H a xs ∧ DpAll K H xs ds := by
  cases h with
  | tup h a => exact ⟨_, _, rfl, h, a⟩
theorem dp_list {ds : List PyData} (h : Dp K H v (.list ds)) : ∃ a xs, v = .ref a ∧ SqL K H a xs ∧ DpAll K H xs ds := by
  cases h with
  | lst h a => exact ⟨_, _, rfl, h, a⟩
theorem dp_int {i : Int} (h : Dp K H v (.int i)) : v = .int i := by
  cases h
  rfl
theorem dp_str {x : Str} (h : Dp K H v (.str x)) : v = .str x := by
  cases h
  rfl
/-- an item of a tuple that is data -/
theorem ix_data {ds : List PyData} {j : Nat} {e : PyData} {u : V} (h : Dp K H v (.tuple ds)) (hj : ds[j]? = some e) (q : ∀ u, Dp K H u e → Q u H) : rIxT K v (.int (j : Nat)) H Q := by
  obtain ⟨a, xs, rfl, hs, ha⟩ := dp_tuple h
  obtain ⟨u, hu, du⟩ := dpAll_get ha hj
  exact ⟨a, xs, _, u, rfl, rfl, hs, atI_nat hu, q u du⟩
theorem len_tup {ds : List PyData} (h : Dp K H v (.tuple ds)) (q : Q (.int (ds.length : Nat)) H) : ∃ x n, [v] = [x] ∧ LenV K x H n ∧ Q (.int (n : Nat)) H := by
  obtain ⟨a, xs, rfl, hs, ha⟩ := dp_tuple h
  exact ⟨_, ds.length, rfl, .inr ⟨xs, hs, (dpAll_len ha).symm⟩, q⟩
end
end RG
/-! ### readings, step by step -/
namespace RG
open PySem PySem.Spec PyProof.Rows L2
abbrev oAdd : R2 := rI0 fun i j => .int (i + j)
abbrev oSub : R2 := rI0 fun i j => .int (i - j)
abbrev oMul : R2 := rI CMul fun i j => .int (i * j)
abbrev oMulW : R2 := rI CMulW fun i j => .int (i * j)
abbrev oDiv : R2 := rI CDivW fun i j => .int (i / j)
abbrev oMod : R2 := rI (fun _ j => 0 < j) fun i j => .int (i % j)
abbrev oPow : R2 := rI CPow fun i j => .int (i ^ j.toNat)
abbrev oLt : R2 := rI0 fun i j => .bl (decide (i < j))
abbrev oLe : R2 := rI0 fun i j => .bl (decide (i ≤ j))
abbrev oGt : R2 := rI0 fun i j => .bl (decide (j < i))
abbrev oGe : R2 := rI0 fun i j => .bl (decide (j ≤ i))
def oIsN : R2 := fun x y H Q => y = .non ∧ Q (.bl (decide (x = .non))) H
def oNotN : R2 := fun x y H Q => y = .non ∧ Q (.bl (!decide (x = .non))) H
def oAddS : R2 := fun x y H Q => ∃ i j, x = .str i ∧ y = .str j ∧ i.length + j.length ≤ sizeLine ∧ Q (.str (i ++ j)) H
def cLen (K : PySem.W.Frag) : List V → Hp → VK → Prop := fun xs H Q => ∃ x n, xs = [x] ∧ LenV K x H n ∧ Q (.int (n : Nat)) H
def cMax2 : List V → Hp → VK → Prop := fun xs H Q => ∃ i j, xs = [.int i, .int j] ∧ Q (.int (if j > i then j else i)) H
def cMin2 : List V → Hp → VK → Prop := fun xs H Q => ∃ i j, xs = [.int i, .int j] ∧ Q (.int (if j < i then j else i)) H
def cInt1 : List V → Hp → VK → Prop := fun xs H Q => (∃ i, xs = [.int i] ∧ Q (.int i) H) ∨ ∃ k, xs = [.bl k] ∧ Q (.int (if k then 1 else 0)) H
def cTuple (K : PySem.W.Frag) : List V → Hp → VK → Prop := fun xs H Q => ∃ p ys, xs = [.ref p] ∧ ((SqL K H p ys ∧ ∀ l, H l = none → Q (.ref l) (upd H l (.tup ys))) ∨ (SqT K H p ys ∧ Q (.ref p) H))
def cList (K : PySem.W.Frag) : List V → Hp → VK → Prop := fun xs H Q => ∃ p ys, xs = [.ref p] ∧ (SqL K H p ys ∨ SqT K H p ys) ∧ ∀ l, H l = none → Q (.ref l) (upd H l (.lst ys))
def tRz (K : PySem.W.Frag) (E : XK) (x : Str) : TS := fun _ _ H => E (.ref (He.ga K x)) none H
section
variable {K : PySem.W.Frag} {σ : L2.St} {H : Hp} {D : Ends} {t u : TS} {te ta tb tc : TE} {Q : VK} {g : TG} {x y v : V} {i : Nat} {tA tB' : TT} {QB : Bool → Hp → Prop} {ts : TA} {QA : List V → Hp → Prop} {E : XK} {sp : Sp}
theorem w_seq (h : t { D with nx := u D } σ H) : tSeq t u D σ H := h
theorem w_next (h : D.nx σ H) : tNext D σ H := h
theorem w_ret (h : te σ H D.rt) : tRet te D σ H := h
theorem w_retN (h : D.rt .non H) : tRetN D σ H := h
theorem w_drop (h : te σ H fun _ H1 => D.nx σ H1) : tDrop te D σ H := h
theorem w_ifs (h : tA σ H fun b H1 => if b = true then t D σ H1 else u D σ H1) : tIfS tA t u D σ H := h
theorem w_set (h : te σ H fun x H1 => D.nx (σ.set i (some x)) H1) : tAsg te (gName i) D σ H := h
theorem w_asg (h : te σ H fun x H1 => g x σ H1 D.nx) : tAsg te g D σ H := h
theorem w_par {j : Nat} (h : ts σ H fun vs H1 => ∃ v w, vs = [v, w] ∧ D.nx ((σ.set i (some v)).set j (some w)) H1) : tPar i j ts D σ H := h
theorem w_rz (h : E (.ref (He.ga K z)) none H) : tRz K E z D σ H := h
theorem w_var (e : σ[i]? = some (some v)) (h : Q v H) : tVar i σ H Q := ⟨v, e, h⟩
theorem w_c (h : Q v H) : tC v σ H Q := h
theorem w_op {r : R2} (h : ta σ H fun x H1 => tb σ H1 fun y H2 => r x y H2 Q) : tOp r ta tb σ H Q := h
theorem w_un {r : V → Hp → VK → Prop} (h : ta σ H fun x H1 => r x H1 Q) : tUn r ta σ H Q := h
theorem w_I0 {f : Int → Int → V} {m n : Int} (h : Q (f m n) H) : rI0 f (.int m) (.int n) H Q := ⟨m, n, rfl, rfl, h⟩
theorem w_I {C : Int → Int → Prop} {f : Int → Int → V} {m n : Int} (c : C m n) (h : Q (f m n) H) : rI C f (.int m) (.int n) H Q := ⟨m, n, rfl, rfl, c, h⟩
theorem w_U {f : Int → V} {m : Int} (h : Q (f m) H) : rU f (.int m) H Q := ⟨m, rfl, h⟩
theorem w_eq (e : scal x y = true) (h : Q (.bl (decide (x = y))) H) : rEq x y H Q := ⟨e, h⟩
theorem w_ne (e : scal x y = true) (h : Q (.bl (!decide (x = y))) H) : rNe x y H Q := ⟨e, h⟩
theorem w_eqI {m n : Int} (h : Q (.bl (decide (m = n))) H) : rEq (.int m) (.int n) H Q := ⟨rfl, by
  have e : decide (V.int m = V.int n) = decide (m = n) := by simp
  rw [e]
  exact h⟩
theorem w_neI {m n : Int} (h : Q (.bl (!decide (m = n))) H) : rNe (.int m) (.int n) H Q := ⟨rfl, by
  have e : decide (V.int m = V.int n) = decide (m = n) := by simp
  rw [e]
  exact h⟩
theorem w_eqS {m n : Str} (h : Q (.bl (decide (m = n))) H) : rEq (.str m) (.str n) H Q := ⟨rfl, by
  have e : decide (V.str m = V.str n) = decide (m = n) := by simp
  rw [e]
  exact h⟩
theorem w_isN (h : Q (.bl (decide (x = .non))) H) : oIsN x .non H Q := ⟨rfl, h⟩
theorem w_notN (h : Q (.bl (!decide (x = .non))) H) : oNotN x .non H Q := ⟨rfl, h⟩
theorem w_chain {r r' : R2} (h : ta σ H fun x H1 => tb σ H1 fun y H2 => r x y H2 fun z H3 => ∃ k, z = .bl k ∧ if k = true then tc σ H3 fun w H4 => r' y w H4 Q else Q (.bl false) H3) : tChain r r' ta tb tc σ H Q := h
theorem w_test (h : te σ H fun x H1 => ∃ k, x = .bl k ∧ QB k H1) : tTest te σ H QB := h
theorem w_B (h : te σ H fun x H1 => ∃ k, x = .bl k ∧ QB k H1) : tB te σ H QB := h
theorem w_and (h : tA σ H fun c H1 => if c = true then tB' σ H1 QB else QB false H1) : tAnd tA tB' σ H QB := h
theorem w_or (h : tA σ H fun c H1 => if c = true then QB true H1 else tB' σ H1 QB) : tOr tA tB' σ H QB := h
theorem w_not (h : tA σ H fun c H1 => QB (!c) H1) : tNot tA σ H QB := h
theorem w_andV (h : ta σ H fun x H1 => ∃ c, x = .bl c ∧ if c = true then tb σ H1 Q else Q (.bl false) H1) : tAndV ta tb σ H Q := h
theorem w_orV (h : ta σ H fun x H1 => ∃ c, x = .bl c ∧ if c = true then Q (.bl true) H1 else tb σ H1 Q) : tOrV ta tb σ H Q := h
theorem w_notV (h : ta σ H fun x H1 => ∃ c, x = .bl c ∧ Q (.bl (!c)) H1) : tNotV ta σ H Q := h
theorem w_if (h : tA σ H fun c H1 => if c = true then ta σ H1 Q else tb σ H1 Q) : tIf tA ta tb σ H Q := h
theorem w_nil (h : QA [] H) : tNil σ H QA := h
theorem w_cons (h : te σ H fun x H1 => ts σ H1 fun xs H2 => QA (x :: xs) H2) : tCons te ts σ H QA := h
theorem w_tup (h : ts σ H fun xs H1 => xs.length ≤ sizeLine ∧ ∀ p, H1 p = none → Q (.ref p) (upd H1 p (.tup xs))) : tTup ts σ H Q := h
theorem w_lst (h : ts σ H fun xs H1 => xs.length ≤ sizeLine ∧ ∀ p, H1 p = none → Q (.ref p) (upd H1 p (.lst xs))) : tLst ts σ H Q := h
theorem w_call (h : ts σ H fun vs H1 => sp (vs ++ []) H1 Q E) : tCall sp [] E ts σ H Q := h
theorem w_cb {r : List V → Hp → VK → Prop} (h : ts σ H fun vs H1 => r vs H1 Q) : tCB r ts σ H Q := h
theorem w_sl {r : V → Option Int → Option Int → Hp → VK → Prop} {tl th : TO} (h : te σ H fun x H1 => tl σ H1 fun l H2 => th σ H2 fun u H3 => r x l u H3 Q) : tSl r te tl th σ H Q := h
theorem w_part {QO : Option Int → Hp → Prop} (h : te σ H fun x H1 => ∃ k, x = .int k ∧ QO (some k) H1) : tPart te σ H QO := h
theorem w_noPart {QO : Option Int → Hp → Prop} (h : QO none H) : tNoPart σ H QO := h
theorem w_bm {T : String} {r : V → List V → Hp → VK → Prop} (h : te σ H fun x H1 => tyV K T x H1 ∧ ts σ H1 fun xs H2 => r x xs H2 Q) : tBM K T r te ts σ H Q := h
theorem w_bm0 {T : String} {r : V → List V → Hp → VK → Prop} (h : te σ H fun x H1 => tyV K T x H1 ∧ r x [] H1 Q) : tBM0 K T r te σ H Q := h
theorem w_sub {to ti : TE} {st : TSet} {R : L2.St → Hp → Prop} (h : to σ H fun o H1 => ti σ H1 fun i H2 => st o i v H2 fun H3 => R σ H3) : gSub to ti st v σ H R := h
theorem w_name {R : L2.St → Hp → Prop} (h : R (σ.set i (some v)) H) : gName i v σ H R := h
theorem w_max2 {m n : Int} (h : Q (.int (if n > m then n else m)) H) : cMax2 [.int m, .int n] H Q := ⟨m, n, rfl, h⟩
theorem w_min2 {m n : Int} (h : Q (.int (if n < m then n else m)) H) : cMin2 [.int m, .int n] H Q := ⟨m, n, rfl, h⟩
theorem w_intI {m : Int} (h : Q (.int m) H) : cInt1 [.int m] H Q := .inl ⟨m, rfl, h⟩
theorem w_intB {b : Bool} (h : Q (.int (if b then 1 else 0)) H) : cInt1 [.bl b] H Q := .inr ⟨b, rfl, h⟩
theorem w_lenT {a : Addr} {xs : List V} (s : SqT K H a xs) (h : Q (.int (xs.length : Nat)) H) : cLen K [.ref a] H Q := ⟨_, _, rfl, .inr ⟨xs, s, rfl⟩, h⟩
theorem w_lenL {a : Addr} {xs : List V} (s : SqL K H a xs) (h : Q (.int (xs.length : Nat)) H) : cLen K [.ref a] H Q := ⟨_, _, rfl, .inl ⟨xs, s, rfl⟩, h⟩
theorem w_lenS {z : Str} (s : z.length ≤ 100000) (h : Q (.int (z.length : Nat)) H) : cLen K [.str z] H Q := ⟨_, _, rfl, ⟨sz s, rfl⟩, h⟩
theorem w_lenD {d : List PyData} (s : Dp K H v (.tuple d)) (h : Q (.int (d.length : Nat)) H) : cLen K [v] H Q := by
  obtain ⟨a, xs, rfl, hs, ha⟩ := dp_tuple s
  exact ⟨_, _, rfl, .inr ⟨xs, hs, (dpAll_len ha).symm⟩, h⟩
theorem w_ixT {a : Addr} {xs : List V} {k : Int} (s : SqT K H a xs) (e : atI xs k = some v) (h : Q v H) : rIxT K (.ref a) (.int k) H Q := ⟨a, xs, k, v, rfl, rfl, s, e, h⟩
theorem w_ixL {a : Addr} {xs : List V} {k : Int} (s : SqL K H a xs) (e : atI xs k = some v) (h : Q v H) : rIxL K (.ref a) (.int k) H Q := ⟨a, xs, k, v, rfl, rfl, s, e, h⟩
theorem w_ixD {ds : List PyData} {j : Nat} {e : PyData} (s : Dp K H v (.tuple ds)) (hj : ds[j]? = some e) (q : ∀ u, Dp K H u e → Q u H) : rIxT K v (.int (j : Nat)) H Q := ix_data (u := .non) s hj q
theorem w_ixD0 {ds : List PyData} {e : PyData} (s : Dp K H v (.tuple (e :: ds))) (q : ∀ u, Dp K H u e → Q u H) : rIxT K v (.int 0) H Q := ix_data (j := 0) (u := .non) s rfl q
theorem w_ixD1 {ds : List PyData} {e e0 : PyData} (s : Dp K H v (.tuple (e0 :: e :: ds))) (q : ∀ u, Dp K H u e → Q u H) : rIxT K v (.int 1) H Q := ix_data (j := 1) (u := .non) s rfl q
theorem w_ixD2 {ds : List PyData} {e e0 e1 : PyData} (s : Dp K H v (.tuple (e0 :: e1 :: e :: ds))) (q : ∀ u, Dp K H u e → Q u H) : rIxT K v (.int 2) H Q := ix_data (j := 2) (u := .non) s rfl q
theorem w_setL {a : Addr} {xs : List V} {k : Int} {j : Nat} {R : Hp → Prop} (s : H a = some (.lst xs)) (e : ixN xs.length k = some j) (h : R (upd H a (.lst (xs.set j v)))) : rSetL (.ref a) (.int k) v H R := ⟨a, xs, k, j, rfl, rfl, s, e, h⟩
theorem w_app {a : Addr} {xs : List V} (s : H a = some (.lst xs)) (z : xs.length < 100000) (h : Q .non (upd H a (.lst (xs ++ [v])))) : rAppend (.ref a) [v] H Q := ⟨a, xs, v, rfl, rfl, s, szl z, h⟩
theorem w_eqD {d e : PyData} (hx : Dp K H x d) (hy : Dp K H y e) (sd : SeqAt.shaped d = true) (se : SeqAt.shaped e = true) (h : Q (.bl (PyData.eqv d e)) H) : rEqD K x y H Q := ⟨d, e, hx, hy, sd, se, h⟩
theorem w_neD {d e : PyData} (hx : Dp K H x d) (hy : Dp K H y e) (sd : SeqAt.shaped d = true) (se : SeqAt.shaped e = true) (h : Q (.bl (!PyData.eqv d e)) H) : rNeD K x y H Q := ⟨d, e, hx, hy, sd, se, h⟩
end
end RG
/-! ### loops and comprehensions -/
namespace RG
open PySem PySem.Spec PyProof.Rows L2
/-- what is left of a comprehension when its iterator stands -/
def LcGoal (J : It) (g : TG) (tt : TT) (te : TE) (vs : List Nat) (σ : L2.St) (H1 : Hp) (Q : VK) : Prop := ∀ D, H1 D = none → ∃ W : Nat → Nat → Hp → Prop, (∃ m, W 0 m (upd H1 D (.lst []))) ∧ ∀ i m H, W i m H →
  (J.stop i H ∧ Q (.ref D) H) ∨ (J.go i H ∧ ∃ Nx : Hp → Prop, (∀ H', Nx H' → ∃ m', m' < m ∧ W (i + 1) m' H') ∧ ∀ x H', J.yld i H x H' → g x (wipe σ vs) H' fun σ2 H2 => wipe σ2 vs = wipe σ vs ∧ tt σ2 H2 fun b H3 =>
    if b = true then te σ2 H3 fun y H4 => ∃ acc, H4 D = some (.lst acc) ∧ acc.length < sizeLine ∧ Nx (upd H4 D (.lst (acc ++ [y]))) else Nx H3)
def ForGoal (J : It) (g : TG) (tb : TS) (D : Ends) (σ : L2.St) (H1 : Hp) : Prop := ∃ W : Nat → Nat → L2.St → Hp → Prop, (∃ m, W 0 m σ H1) ∧ ∀ i m σ H, W i m σ H →
  (J.stop i H ∧ D.nx σ H) ∨ (J.go i H ∧ ∃ N : L2.St → Hp → Prop, (∀ σ' H', N σ' H' → ∃ m', m' < m ∧ W (i + 1) m' σ' H') ∧ ∀ x H', J.yld i H x H' → g x σ H' fun σ2 H2 => tb { D with nx := N, ct := N, bk := D.nx } σ2 H2)
/-- a turn's end that keeps an item, that keeps none -/
def LcNx (Iv : Nat → List V → Hp → Prop) (D : Addr) (i : Nat) (y : V) (H4 : Hp) : Prop := ∃ acc, H4 D = some (.lst acc) ∧ acc.length < sizeLine ∧ ∃ acc', acc'.length ≤ i + 1 ∧ (upd H4 D (.lst (acc ++ [y]))) D = some (.lst acc') ∧ Iv (i + 1) acc' (upd H4 D (.lst (acc ++ [y])))
def LcSk (Iv : Nat → List V → Hp → Prop) (D : Addr) (i : Nat) (H3 : Hp) : Prop := ∃ acc', acc'.length ≤ i + 1 ∧ H3 D = some (.lst acc') ∧ Iv (i + 1) acc' H3
section
variable {K : PySem.W.Frag} {σ : L2.St} {H : Hp} {D : Ends} {tb : TS} {te tl : TE} {Q : VK} {g : TG} {tt : TT} {wi : TI} {ta : TA} {vs : List Nat} {R : It → Hp → Prop} {J : It} {n : Nat} {G : Hp → Prop} {Y : Nat → Hp → V → Hp → Prop}
theorem w_lc (h : wi σ H fun J H1 => LcGoal J g tt te vs σ H1 Q) : tLc wi g tt te vs σ H Q := h
theorem w_for (h : wi σ H fun J H1 => ForGoal J g tb D σ H1) : tFor wi g tb D σ H := h
theorem w_rng1 (h : ta σ H fun vs H1 => ∃ j : Int, vs = [.int j] ∧ -(2 ^ 62) ≤ j ∧ j < 2 ^ 62 ∧ R (Itr 0 j.toNat) H1) : iRng1 ta σ H R := h
theorem w_rng2 (h : ta σ H fun vs H1 => ∃ i j : Int, vs = [.int i, .int j] ∧ (-(2 ^ 62) ≤ i ∧ i < 2 ^ 62 ∧ -(2 ^ 62) ≤ j ∧ j < 2 ^ 62) ∧ R (Itr i (j - i).toNat) H1) : iRng2 ta σ H R := h
theorem w_iList (h : tl σ H fun x H1 => ∃ a, x = .ref a ∧ (∃ xs, SqL K H1 a xs) ∧ R (Itl K a) H1) : iList K tl σ H R := h
theorem w_iTup (h : tl σ H fun x H1 => ∃ a, x = .ref a ∧ (∃ xs, SqT K H1 a xs) ∧ R (Itt K a) H1) : iTup K tl σ H R := h
theorem w_iEnum (h : ta σ H fun vs H1 => ∃ a xs, vs = [.ref a] ∧ SqL K H1 a xs ∧ R (Ite K a) H1) : iEnum K ta σ H R := h
theorem w_iZip (h : ta σ H fun vs H1 => ∃ a b xs ys, vs = [.ref a, .ref b] ∧ SqL K H1 a xs ∧ SqL K H1 b ys ∧ R (Itz K a b) H1) : iZip K ta σ H R := h
theorem for_go (w : Walk J n G Y) (Pv : Nat → L2.St → Hp → Prop) (h0 : Pv 0 σ H) (hG : ∀ i σ H, i ≤ n → Pv i σ H → G H)
    (hs : ∀ i x σ H H', i < n → Pv i σ H → Y i H x H' → g x σ H' fun σ2 H2 => tb { D with nx := Pv (i + 1), ct := Pv (i + 1), bk := D.nx } σ2 H2) (hd : ∀ σ H, Pv n σ H → D.nx σ H) : ForGoal J g tb D σ H := for_it w Pv h0 hG hs hd
theorem lc_go (w : Walk J n G Y) (hn : n ≤ 50000) (Iv : Addr → Nat → List V → Hp → Prop) (h0 : ∀ D, H D = none → Iv D 0 [] (upd H D (.lst [])))
    (hG : ∀ D i acc H', H D = none → H' D = some (.lst acc) → Iv D i acc H' → G H')
    (hs : ∀ D i acc x H' H'', H D = none → i < n → acc.length ≤ i → H' D = some (.lst acc) → Iv D i acc H' → Y i H' x H'' → g x (wipe σ vs) H'' fun σ2 H2 => wipe σ2 vs = wipe σ vs ∧ tt σ2 H2 fun b H3 =>
      if b = true then te σ2 H3 fun y H4 => LcNx (Iv D) D i y H4 else LcSk (Iv D) D i H3)
    (hd : ∀ D acc H', H D = none → H' D = some (.lst acc) → acc.length ≤ n → Iv D n acc H' → Q (.ref D) H') : LcGoal J g tt te vs σ H Q := fun D hD => by
  refine lc_it w (fun i H' => ∃ acc, acc.length ≤ i ∧ H' D = some (.lst acc) ∧ Iv D i acc H') ⟨[], Nat.le_refl _, upd_same, h0 D hD⟩ (fun i H' _ ⟨acc, _, a, b⟩ => hG D i acc H' hD a b) ?_ (fun H' ⟨acc, a, b, c⟩ => hd D acc H' hD b a c)
  rintro i x H' H'' hi ⟨acc, a, b, c⟩ y
  exact hs D i acc x H' H'' hD hi a b c y
theorem lc_nx {Iv : Nat → List V → Hp → Prop} {A : Addr} {i : Nat} {y : V} {H4 : Hp} {acc : List V} (hi : i < 90000) (hl : acc.length ≤ i) (h : H4 A = some (.lst acc)) (q : Iv (i + 1) (acc ++ [y]) (upd H4 A (.lst (acc ++ [y])))) : LcNx Iv A i y H4 :=
  ⟨acc, h, szl (by omega), acc ++ [y], by simp; omega, upd_same, q⟩
theorem lc_sk {Iv : Nat → List V → Hp → Prop} {A : Addr} {i : Nat} {H3 : Hp} {acc : List V} (hl : acc.length ≤ i) (h : H3 A = some (.lst acc)) (q : Iv (i + 1) acc H3) : LcSk Iv A i H3 := ⟨acc, by omega, h, q⟩
theorem w_lrg {tr : L2.St → Hp → (Int → Int → Hp → Prop) → Prop} (h : tr σ H fun a b H1 => RgOk a b ∧ ∀ q, H1 q = none → Q (.ref q) (upd H1 q (.lst (rgV a b)))) : tLstRg tr σ H Q := h
theorem w_rg1 {k : Int → Int → Hp → Prop} (h : te σ H fun x H1 => ∃ n : Int, x = .int n ∧ k 0 n H1) : tRg1 te σ H k := h
theorem w_yes {QB : Bool → Hp → Prop} (h : QB true H) : tYes σ H QB := h
theorem w_gtup {m : Nat} {t : TGs} {a : Addr} {xs : List V} {R : L2.St → Hp → Prop} (s : SqT K H a xs) (e : xs.length = m) (h : t xs σ H R) : gTup K m t (.ref a) σ H R := ⟨a, xs, rfl, s, e, h⟩
theorem w_gcons {t : TG} {u : TGs} {v : V} {r : List V} {R : L2.St → Hp → Prop} (h : t v σ H fun σ' H' => u r σ' H' R) : gCons t u (v :: r) σ H R := ⟨v, r, rfl, h⟩
theorem w_gnil {R : L2.St → Hp → Prop} (h : R σ H) : gNil [] σ H R := ⟨rfl, h⟩
end
end RG
/-! ### comprehensions that change nothing; slices; in -/
namespace RG
open PySem PySem.Spec PyProof.Rows L2
/-- behind i turns: all that stood stands, the list holds what the turns gave -/
def IvP (H : Hp) (l : List (List V)) (D : Addr) (i : Nat) (acc : List V) (H' : Hp) : Prop := Same H H' ∧ acc = (l.take i).flatten
section
variable {K : PySem.W.Frag} {σ : L2.St} {H : Hp} {te : TE} {Q : VK} {g : TG} {tt : TT} {vs : List Nat} {J : It} {n : Nat} {G : Hp → Prop} {Y : Nat → Hp → V → Hp → Prop}
theorem take_flat {l : List (List V)} {i : Nat} {x : List V} (h : l[i]? = some x) : (l.take (i + 1)).flatten = (l.take i).flatten ++ x := by
  rw [List.take_add_one, h]
  simp
theorem lc_pure (w : Walk J n G Y) (hn : n ≤ 50000) (l : List (List V)) (hl : l.length = n) (hG : ∀ H', Same H H' → G H')
    (hs : ∀ D i acc x H' H'', H D = none → i < n → acc.length ≤ i → H' D = some (.lst acc) → IvP H l D i acc H' → Y i H' x H'' → g x (wipe σ vs) H'' fun σ2 H2 => wipe σ2 vs = wipe σ vs ∧ tt σ2 H2 fun b H3 =>
      if b = true then te σ2 H3 fun y H4 => LcNx (IvP H l D) D i y H4 else LcSk (IvP H l D) D i H3)
    (hd : ∀ D H', H D = none → Same H H' → H' D = some (.lst l.flatten) → Q (.ref D) H') : LcGoal J g tt te vs σ H Q := by
  refine lc_go w hn (IvP H l) (fun D hD => ⟨Same.new hD, rfl⟩) (fun D i acc H' hD _ iv => hG H' iv.1) hs fun D acc H' hD hH' _ iv => hd D H' hD iv.1 ?_
  rw [hH', iv.2, List.take_of_length_le (by omega)]
theorem lcp_nx {l : List (List V)} {A : Addr} {i : Nat} {y : V} {acc : List V} {H' H4 : Hp} (hD : H A = none) (hi : i < 90000) (hl : acc.length ≤ i) (h : H' A = some (.lst acc)) (iv : IvP H l A i acc H') (s : Same H' H4) (e : l[i]? = some [y]) : LcNx (IvP H l A) A i y H4 :=
  lc_nx hi hl (s _ _ h) ⟨fun b o q => by
    rw [upd_ne (ne_of_none q hD)]
    exact s _ _ (iv.1 _ _ q), by rw [take_flat e, iv.2]⟩
theorem lcp_sk {l : List (List V)} {A : Addr} {i : Nat} {acc : List V} {H' H4 : Hp} (hl : acc.length ≤ i) (h : H' A = some (.lst acc)) (iv : IvP H l A i acc H') (s : Same H' H4) (e : l[i]? = some []) : LcSk (IvP H l A) A i H4 :=
  lc_sk hl (s _ _ h) ⟨iv.1.trans s, by rw [take_flat e, iv.2, List.append_nil]⟩
theorem flat_one {α : Type} (f : α → V) : ∀ l : List α, (l.map fun x => [f x]).flatten = l.map f
  | [] => rfl
  | x :: r => by
    simp only [List.map_cons, List.flatten_cons, flat_one f r]
    rfl
theorem flat_if {α : Type} (p : α → Bool) (f : α → V) : ∀ l : List α, (l.map fun x => if p x = true then [f x] else []).flatten = (l.filter p).map f
  | [] => rfl
  | x :: r => by
    simp only [List.map_cons, List.flatten_cons, flat_if p f r, List.filter_cons]
    split <;> rfl
theorem cutV_tail (x : V) (xs : List V) : cutV (x :: xs) (some 1) none = xs := by
  have h1 : HT.sIx (x :: xs).length 0 (some 1) = min 1 (x :: xs).length := HT.sIx_nat _ 0 1
  have h2 : min 1 (x :: xs).length = 1 := by
    rw [List.length_cons]
    omega
  unfold cutV
  rw [h1, h2, HT.sIx_none]
  simp
/-- t[1:] of a tuple that isn't empty -/
theorem w_sl1 {a : Addr} {x : V} {xs : List V} (s : SqT K H a (x :: xs)) (h : ∀ p, H p = none → Q (.ref p) (upd H p (.tup xs))) : rSlA K (.ref a) (some 1) none H Q := by
  refine ⟨a, _, rfl, s, fun z => ?_, fun _ p np => ?_⟩
  · have h1 : HT.sIx (x :: xs).length 0 (some 1) = min 1 (x :: xs).length := HT.sIx_nat _ 0 1
    rw [h1, List.length_cons] at z
    omega
  · rw [cutV_tail]
    exact h p np
theorem w_inT {x : V} {a : Addr} {xs : List V} (s : SqT K H a xs) (fx : flatV x = true) (fs : xs.all flatV = true) (h : Q (.bl (inV x xs)) H) : rIn K false x (.ref a) H Q := ⟨a, xs, rfl, .inr s, fx, fs, h⟩
theorem w_inL {x : V} {a : Addr} {xs : List V} (s : SqL K H a xs) (fx : flatV x = true) (fs : xs.all flatV = true) (h : Q (.bl (inV x xs)) H) : rIn K false x (.ref a) H Q := ⟨a, xs, rfl, .inl s, fx, fs, h⟩
theorem w_ninL {x : V} {a : Addr} {xs : List V} (s : SqL K H a xs) (fx : flatV x = true) (fs : xs.all flatV = true) (h : Q (.bl (!inV x xs)) H) : rIn K true x (.ref a) H Q := ⟨a, xs, rfl, .inl s, fx, fs, h⟩
theorem inV_two (z a b : Str) : inV (.str z) [.str a, .str b] = (decide (z = a) || decide (z = b)) := by
  have h1 : ∀ u : Str, (u == z) = decide (z = u) := fun u => by
    by_cases h : z = u
    · subst h
      simp
    · rw [decide_eq_false h]
      exact beq_eq_false_iff_ne.mpr fun q => h q.symm
  simp only [inV, List.any_cons, List.any_nil, eqV, h1, Bool.or_false]
theorem w_all {a : Addr} {bs : List Bool} (s : SqL K H a (bs.map V.bl)) (h : Q (.bl (bs.all id)) H) : rAll K [.ref a] H Q := ⟨a, bs, rfl, s, h⟩
theorem w_any {a : Addr} {bs : List Bool} (s : SqL K H a (bs.map V.bl)) (h : Q (.bl (bs.any id)) H) : rAny K [.ref a] H Q := ⟨a, bs, rfl, s, h⟩
theorem w_sum {a : Addr} {ns : List Int} (s : SqL K H a (ns.map V.int)) (h : Q (.int ns.sum) H) : rSum K [.ref a] H Q := ⟨a, ns, rfl, s, h⟩
theorem walk_zipT {a b : Addr} {xs ys : List V} {m : Nat} (hm : m = min xs.length ys.length) : Walk (RZ.ItzT K a b) m (fun H => SqT K H a xs ∧ SqT K H b ys) (YPair (fun i => xs[i]?) (fun i => ys[i]?)) := by
  subst hm
  refine ⟨fun i _ hi q => ?_, fun _ q => ⟨xs, ys, q.1, q.2, by omega⟩, fun i H v H' _ q y => ?_⟩
  · have h1 : i < xs.length := by omega
    have h2 : i < ys.length := by omega
    exact ⟨xs, ys, xs[i], ys[i], q.1, q.2, by simp [h1], by simp [h2]⟩
  · obtain ⟨T, x, z, h1, h2, h3, h4, h5⟩ := y
    exact ⟨T, x, z, h1, h2, h3, h4 xs q.1, h5 ys q.2⟩
theorem w_zipA {ta : TA} {R : It → Hp → Prop} (h : ta σ H fun vs H1 => ∃ a b xs ys, vs = [.ref a, .ref b] ∧ ((SqL K H1 a xs ∧ SqL K H1 b ys ∧ R (Itz K a b) H1) ∨ (SqT K H1 a xs ∧ SqT K H1 b ys ∧ R (RZ.ItzT K a b) H1))) : RZ.iZipA K ta σ H R := h
end
theorem shaped_mem {ds : List PyData} {d : PyData} (h : SeqAt.shaped (.tuple ds) = true) (hd : d ∈ ds) : SeqAt.shaped d = true := by
  have h1 : ∀ l : List PyData, PyData.canLayAll0 l = true → d ∈ l → d.canLay0 = true := by
    intro l
    induction l with
    | nil => intro _ h; cases h
    | cons x r ih =>
      intro h m
      simp only [PyData.canLayAll0, Bool.and_eq_true] at h
      rcases List.mem_cons.mp m with rfl | m
      · exact h.1
      · exact ih h.2 m
  have h2 : ∀ l : List PyData, d ∈ l → d.depth ≤ PyData.depthAll l := by
    intro l
    induction l with
    | nil => intro h; cases h
    | cons x r ih =>
      intro m
      simp only [PyData.depthAll]
      rcases List.mem_cons.mp m with rfl | m
      · omega
      · have := ih m
        omega
  have a := SeqAt.canLay_of_shaped h
  have b := SeqAt.depth_of_shaped h
  simp only [PyData.canLay0] at a
  simp only [PyData.depth] at b
  have c := h2 ds hd
  have e : decide (d.depth ≤ 64) = true := decide_eq_true (by omega)
  simp only [SeqAt.shaped, h1 ds a hd, e, Bool.and_self]
/-- a def without any promise -/
theorem Ok.bot {P : Program} {w : World} {K : PySem.W.Frag} {mg : Str → Option Value} {base : Heap} {x : Str} {st : Stmt} {ps : List Str} {k : Nat} (G : mg x = some (.ref (He.ga K x))) (F : FnAt K x st) (b : BindAll x st ps) : Ok P w K mg base k x ps (fun _ _ _ _ => False) := by
  obtain ⟨fd, F⟩ := F
  have e : fdAt K (He.ga K x) = some fd := by
    obtain ⟨oc, od, dV, kV, doc, pm, an, cdv, ct, osl, rfl, lk, _⟩ := F.ex
    unfold fdAt
    rw [lk]
  exact ⟨G, F.kp, fd, e, F.bindsA b, ⟨fun _ _ _ _ h => h.elim, fun _ _ _ _ _ _ _ _ _ _ _ _ _ h => h.elim⟩⟩
end RG
/-! ### data of a fit size -/
namespace RG
open PySem PySem.Spec PyProof.Rows L2
mutual
/-- no list or tuple within is longer than a thousand -/
def narrow : PyData → Bool
  | .tuple xs => decide (xs.length ≤ 1000) && narrowAll xs
  | .list xs => decide (xs.length ≤ 1000) && narrowAll xs
  | .none => true
  | .bool _ => true
  | .int _ => true
  | .str _ => true
  | .dict _ => true
def narrowAll : List PyData → Bool
  | [] => true
  | x :: xs => narrow x && narrowAll xs
end
theorem narrowAll_mem : ∀ {l : List PyData} {d : PyData}, narrowAll l = true → d ∈ l → narrow d = true
  | [], _, _, h => by cases h
  | x :: r, d, h, m => by
    simp only [narrowAll, Bool.and_eq_true] at h
    rcases List.mem_cons.mp m with rfl | m
    · exact h.1
    · exact narrowAll_mem h.2 m
def okD (d : PyData) : Bool := SeqAt.shaped d && narrow d
theorem okD_sh {d : PyData} (h : okD d = true) : SeqAt.shaped d = true := (Bool.and_eq_true_iff.mp h).1
theorem okD_mem {ds : List PyData} {d : PyData} (h : okD (.tuple ds) = true) (m : d ∈ ds) : okD d = true := by
  obtain ⟨a, b⟩ := Bool.and_eq_true_iff.mp h
  simp only [narrow, Bool.and_eq_true] at b
  exact Bool.and_eq_true_iff.mpr ⟨shaped_mem a m, narrowAll_mem b.2 m⟩
theorem okD_len {ds : List PyData} (h : okD (.tuple ds) = true) : ds.length ≤ 1000 := by
  obtain ⟨a, b⟩ := Bool.and_eq_true_iff.mp h
  simp only [narrow, Bool.and_eq_true, decide_eq_true_eq] at b
  exact b.1
theorem not_tup {d : PyData} (h : ¬ isTupD d = true) : isTupD d = false := by simpa using h
theorem is_tup {d : PyData} (h : isTupD d = true) : ∃ ds, d = .tuple ds := by
  cases d <;> first | exact ⟨_, rfl⟩ | cases h
theorem is_str {d : PyData} (h : isStrD d = true) : ∃ z, d = .str z := by
  cases d <;> first | exact ⟨_, rfl⟩ | cases h
end RG
/-! ### truths joined -/
namespace RG
open PySem PySem.Spec PyProof.Rows L2
/-- it tells b and leaves what stood -/
def EvB (te : TE) (σ : L2.St) (H : Hp) (b : Bool) : Prop := ∀ Q : VK, (∀ H', Same H H' → Q (.bl b) H') → te σ H Q
def EvT (tt : TT) (σ : L2.St) (H : Hp) (b : Bool) : Prop := ∀ Q : Bool → Hp → Prop, (∀ H', Same H H' → Q b H') → tt σ H Q
section
variable {σ : L2.St} {H : Hp} {ta tb te : TE} {tA tC' : TT} {a b : Bool}
theorem evb_use {Q : VK} (h : EvB te σ H b) (k : ∀ H', Same H H' → Q (.bl b) H') : te σ H Q := h Q k
theorem evt_use {Q : Bool → Hp → Prop} (h : EvT tA σ H b) (k : ∀ H', Same H H' → Q b H') : tA σ H Q := h Q k
theorem evb_and (h1 : EvB ta σ H a) (h2 : a = true → ∀ H', Same H H' → EvB tb σ H' b) : EvB (tAndV ta tb) σ H (a && b) := fun Q q => h1 _ fun H1 s1 => ⟨a, rfl, by
  cases a with
  | true => exact if_t rfl (h2 rfl H1 s1 Q fun H2 s2 => q H2 (s1.trans s2))
  | false => exact if_f rfl (q H1 s1)⟩
theorem evb_or (h1 : EvB ta σ H a) (h2 : a = false → ∀ H', Same H H' → EvB tb σ H' b) : EvB (tOrV ta tb) σ H (a || b) := fun Q q => h1 _ fun H1 s1 => ⟨a, rfl, by
  cases a with
  | true => exact if_t rfl (q H1 s1)
  | false => exact if_f rfl (h2 rfl H1 s1 Q fun H2 s2 => q H2 (s1.trans s2))⟩
theorem evb_not (h1 : EvB ta σ H a) : EvB (tNotV ta) σ H (!a) := fun Q q => h1 _ fun H1 s1 => ⟨a, rfl, q H1 s1⟩
theorem evt_B (h1 : EvB ta σ H a) : EvT (tB ta) σ H a := fun Q q => h1 _ fun H1 s1 => ⟨a, rfl, q H1 s1⟩
theorem evt_test (h1 : EvB ta σ H a) : EvT (tTest ta) σ H a := fun Q q => h1 _ fun H1 s1 => ⟨a, rfl, q H1 s1⟩
theorem evt_and (h1 : EvT tA σ H a) (h2 : a = true → ∀ H', Same H H' → EvT tC' σ H' b) : EvT (tAnd tA tC') σ H (a && b) := fun Q q => h1 _ fun H1 s1 => by
  cases a with
  | true => exact if_t rfl (h2 rfl H1 s1 Q fun H2 s2 => q H2 (s1.trans s2))
  | false => exact if_f rfl (q H1 s1)
theorem evt_or (h1 : EvT tA σ H a) (h2 : a = false → ∀ H', Same H H' → EvT tC' σ H' b) : EvT (tOr tA tC') σ H (a || b) := fun Q q => h1 _ fun H1 s1 => by
  cases a with
  | true => exact if_t rfl (q H1 s1)
  | false => exact if_f rfl (h2 rfl H1 s1 Q fun H2 s2 => q H2 (s1.trans s2))
theorem evt_not (h1 : EvT tA σ H a) : EvT (tNot tA) σ H (!a) := fun Q q => h1 _ fun H1 s1 => q H1 s1
end
end RG
/-! ### comprehensions of data -/
namespace RG
open PySem PySem.Spec PyProof.Rows L2
mutual
/-- a change of a list does not bear on data without lists -/
theorem dp_mut {K : PySem.W.Frag} {H : Hp} {p : Addr} {o : HO} {ys : List V} (hp : H p = some (.lst ys)) : ∀ {v : V} {d : PyData}, imm d = true → Dp K H v d → Dp K (upd H p o) v d
  | _, _, _, .non => .non
  | _, _, _, .bl b => .bl b
  | _, _, _, .int i => .int i
  | _, _, _, .str x => .str x
  | _, _, i, .lst h a => by simp [imm] at i
  | _, _, i, .tup h a => .tup (tup_mut hp h) (dpAll_mut hp (by simpa [imm] using i) a)
theorem dpAll_mut {K : PySem.W.Frag} {H : Hp} {p : Addr} {o : HO} {ys : List V} (hp : H p = some (.lst ys)) : ∀ {vs : List V} {ds : List PyData}, immAll ds = true → DpAll K H vs ds → DpAll K (upd H p o) vs ds
  | _, _, _, .nil => .nil
  | _, _, i, .cons a b => by
    simp [immAll] at i
    exact .cons (dp_mut hp i.1 a) (dpAll_mut hp i.2 b)
end
theorem immAll_app : ∀ {a b : List PyData}, immAll (a ++ b) = (immAll a && immAll b)
  | [], b => by simp [immAll]
  | x :: a, b => by
    simp only [List.cons_append, immAll, immAll_app (a := a), Bool.and_assoc]
theorem immAll_mem : ∀ {l : List PyData}, (∀ d ∈ l, imm d = true) → immAll l = true
  | [], _ => rfl
  | x :: l, h => by
    have h2 : immAll l = true := immAll_mem fun d hd => h d (List.mem_cons_of_mem _ hd)
    simp only [immAll, h x (by simp), h2, Bool.and_self]
theorem immAll_get : ∀ {l : List PyData} {d : PyData}, immAll l = true → d ∈ l → imm d = true
  | [], _, _, h => by cases h
  | x :: l, d, h, m => by
    simp only [immAll, Bool.and_eq_true] at h
    rcases List.mem_cons.mp m with rfl | m
    · exact h.1
    · exact immAll_get h.2 m
def IvD (K : PySem.W.Frag) (H : Hp) (l : List (List PyData)) (D : Addr) (i : Nat) (acc : List V) (H' : Hp) : Prop := Same H H' ∧ DpAll K H' acc (l.take i).flatten
section
variable {K : PySem.W.Frag} {σ : L2.St} {H : Hp} {te : TE} {Q : VK} {g : TG} {tt : TT} {vs : List Nat} {J : It} {n : Nat} {G : Hp → Prop} {Y : Nat → Hp → V → Hp → Prop}
theorem take_flatD {α : Type} {l : List (List α)} {i : Nat} {x : List α} (h : l[i]? = some x) : (l.take (i + 1)).flatten = (l.take i).flatten ++ x := by
  rw [List.take_add_one, h]
  simp
theorem immAll_take {l : List (List PyData)} (h : immAll l.flatten = true) (i : Nat) : immAll (l.take i).flatten = true := by
  have e : l.flatten = (l.take i).flatten ++ (l.drop i).flatten := by
    rw [← List.flatten_append, List.take_append_drop]
  rw [e, immAll_app, Bool.and_eq_true] at h
  exact h.1
theorem lc_data (w : Walk J n G Y) (hn : n ≤ 50000) (l : List (List PyData)) (hl : l.length = n) (hG : ∀ H', Same H H' → G H')
    (hs : ∀ D i acc x H' H'', H D = none → i < n → acc.length ≤ i → H' D = some (.lst acc) → IvD K H l D i acc H' → Y i H' x H'' → g x (wipe σ vs) H'' fun σ2 H2 => wipe σ2 vs = wipe σ vs ∧ tt σ2 H2 fun b H3 =>
      if b = true then te σ2 H3 fun y H4 => LcNx (IvD K H l D) D i y H4 else LcSk (IvD K H l D) D i H3)
    (hd : ∀ D acc H', H D = none → Same H H' → H' D = some (.lst acc) → DpAll K H' acc l.flatten → Q (.ref D) H') : LcGoal J g tt te vs σ H Q := by
  refine lc_go w hn (IvD K H l) (fun D hD => ⟨Same.new hD, .nil⟩) (fun D i acc H' hD _ iv => hG H' iv.1) hs fun D acc H' hD hH' _ iv => hd D acc H' hD iv.1 hH' ?_
  have h := iv.2
  rw [List.take_of_length_le (by omega)] at h
  exact h
theorem lcd_nx {l : List (List PyData)} {A : Addr} {i : Nat} {y : V} {d : PyData} {acc : List V} {H' H4 : Hp} (hD : H A = none) (hi : i < 90000) (hl : acc.length ≤ i) (h : H' A = some (.lst acc)) (iv : IvD K H l A i acc H') (s : Same H' H4) (hy : Dp K H4 y d) (im : immAll l.flatten = true) (e : l[i]? = some [d]) : LcNx (IvD K H l A) A i y H4 := by
  have hi1 := immAll_take im (i + 1)
  rw [take_flatD e] at hi1
  refine lc_nx hi hl (s _ _ h) ⟨fun b o q => ?_, ?_⟩
  · rw [upd_ne (ne_of_none q hD)]
    exact s _ _ (iv.1 _ _ q)
  · rw [take_flatD e]
    exact dpAll_mut (s _ _ h) hi1 (dpAll_app (dps_s s iv.2) (.cons hy .nil))
theorem lcd_sk {l : List (List PyData)} {A : Addr} {i : Nat} {acc : List V} {H' H4 : Hp} (hl : acc.length ≤ i) (h : H' A = some (.lst acc)) (iv : IvD K H l A i acc H') (s : Same H' H4) (e : l[i]? = some []) : LcSk (IvD K H l A) A i H4 :=
  lc_sk hl (s _ _ h) ⟨iv.1.trans s, by
    rw [take_flatD e, List.append_nil]
    exact dps_s s iv.2⟩
theorem flat_oneD {α β : Type} (f : α → β) : ∀ l : List α, (l.map fun x => [f x]).flatten = l.map f
  | [] => rfl
  | x :: r => by
    simp only [List.map_cons, List.flatten_cons, flat_oneD f r]
    rfl
theorem flat_ifD {α β : Type} (p : α → Bool) (f : α → β) : ∀ l : List α, (l.map fun x => if p x = true then [f x] else []).flatten = (l.filter p).map f
  | [] => rfl
  | x :: r => by
    simp only [List.map_cons, List.flatten_cons, flat_ifD p f r, List.filter_cons]
    split <;> rfl
/-- with dice: what the turns gave is some data that R tells of -/
def IvR (K : PySem.W.Frag) (a : Addr) (H : Hp) (R : Nat → List PyData → Prop) (D : Addr) (i : Nat) (acc : List V) (H' : Hp) : Prop := But a H H' ∧ D ≠ a ∧ ∃ ds, DpAll K H' acc ds ∧ immAll ds = true ∧ R i ds
theorem lc_dice {a : Addr} (w : Walk J n G Y) (hn : n ≤ 50000) (R : Nat → List PyData → Prop) (hd0 : Dice H a) (h0 : R 0 []) (hG : ∀ H', But a H H' → G H')
    (hs : ∀ D i acc x H' H'', H D = none → i < n → acc.length ≤ i → H' D = some (.lst acc) → IvR K a H R D i acc H' → Y i H' x H'' → g x (wipe σ vs) H'' fun σ2 H2 => wipe σ2 vs = wipe σ vs ∧ tt σ2 H2 fun b H3 =>
      if b = true then te σ2 H3 fun y H4 => LcNx (IvR K a H R D) D i y H4 else LcSk (IvR K a H R D) D i H3)
    (hd : ∀ D acc ds H', H D = none → But a H H' → D ≠ a → H' D = some (.lst acc) → DpAll K H' acc ds → immAll ds = true → R n ds → Q (.ref D) H') : LcGoal J g tt te vs σ H Q := by
  refine lc_go w hn (IvR K a H R) (fun D hD => ⟨But.of hd0 (Same.new hD), hd0.ne hD, [], .nil, rfl, h0⟩) (fun D i acc H' hD _ iv => hG H' iv.1) hs fun D acc H' hD hH' _ iv => ?_
  obtain ⟨b, nD, ds, h1, h2, h3⟩ := iv
  exact hd D acc ds H' hD b nD hH' h1 h2 h3
theorem lcr_nx {a : Addr} {R : Nat → List PyData → Prop} {A : Addr} {i : Nat} {y : V} {d : PyData} {ds : List PyData} {acc : List V} {H' H4 : Hp} (hD : H A = none) (hi : i < 90000) (hl : acc.length ≤ i) (h : H' A = some (.lst acc)) (b : But a H H') (nA : A ≠ a) (hds : DpAll K H' acc ds) (im : immAll ds = true)
    (s : But a H' H4) (hy : Dp K H4 y d) (imd : imm d = true) (r : R (i + 1) (ds ++ [d])) : LcNx (IvR K a H R A) A i y H4 := by
  have h4 := s.kp _ _ h nA
  have i2 : immAll (ds ++ [d]) = true := by
    rw [immAll_app, im]
    simp [immAll, imd]
  exact lc_nx hi hl h4 ⟨(b.trans s).mut hD nA, nA, ds ++ [d], dpAll_mut h4 i2 (dpAll_app (s.dpAll im hds) (.cons hy .nil)), i2, r⟩
theorem lcr_sk {a : Addr} {R : Nat → List PyData → Prop} {A : Addr} {i : Nat} {ds : List PyData} {acc : List V} {H' H4 : Hp} (hl : acc.length ≤ i) (h : H' A = some (.lst acc)) (b : But a H H') (nA : A ≠ a) (hds : DpAll K H' acc ds) (im : immAll ds = true)
    (s : But a H' H4) (r : R (i + 1) ds) : LcSk (IvR K a H R A) A i H4 := lc_sk hl (s.kp _ _ h nA) ⟨b.trans s, nA, ds, s.dpAll im hds, im, r⟩
end
end RG
namespace RG
open PySem PySem.Spec PyProof.Rows L2
theorem hu65 {k : Nat} {A : Around} (hr : Room k A) : A.units + 65 < cLine := by
  have := hr.un
  omega
end RG
/-! ### enumerate(t), t a tuple -/
namespace RG
open PySem PySem.Spec PyProof.Rows L2
set_option maxHeartbeats 1000000 in
theorem enum_new_tup (tp : Addr) (vals : Array Value) :
    Meets (Builtin.«enumerate.__new__» ⟨[.type "enumerate", .ref tp], []⟩) (fun _ R s => s.heap.IsTuple tp vals ∧
      R (.ok (.ret (.ref (s.heap.push { cls := .type "tuple_iterator", data := .fields #[.ref tp, .int 0 0] }).objs.size)))
        { s with heap := (s.heap.push { cls := .type "tuple_iterator", data := .fields #[.ref tp, .int 0 0] }).push { cls := .type "enumerate", data := .fields #[.none, .bool false, .ref s.heap.objs.size, rawInt 0, .none, .none] } }) :=
  .of_wp fun pg wd ar R s hh => by
    obtain ⟨hp, g, d, tk, os⟩ := s
    obtain ⟨ht, hR⟩ := hh
    have hsb := sub_enumerate
    have go : ∀ {A' : Around} {E : Value → Shared → Prop} {Q : Value → Shared → Prop}, Q (.ref hp.objs.size) ⟨hp.push { cls := .type "tuple_iterator", data := .fields #[.ref tp, .int 0 0] }, g, d, tk, os⟩ → wpAny (model pg wd) A' (pyIter (.ref tp)) Q E ⟨hp, g, d, tk, os⟩ :=
      fun k => wpAny_pyIter_tuple (s := ⟨hp, g, d, tk, os⟩) ht k
    wp_walk using go
    refine wpAny_stack_any fun st => wpAny_pure ?_
    split
    · rename_i c _ _ _ _ _
      cases (c == Value.type "enumerate")
      · wp_walk using go
        exact ⟨_, rfl, hR⟩
      · wp_walk using go
        exact ⟨_, rfl, hR⟩
    · wp_walk using go
      exact ⟨_, rfl, hR⟩
theorem enum_call_tup {pg : Program} {wd : World} {ar : Around} {E : Value → Shared → Prop} {s : Shared} {tp : Addr} {vals : Array Value} {Q : Value → Shared → Prop} (ht : s.heap.IsTuple tp vals)
    (hq : ∀ h', IsEnum h' (s.heap.objs.size + 1) s.heap.objs.size 0 .none → h'.IsTupleIter s.heap.objs.size tp 0 →
      (∀ b o, s.heap.get? b = some o → h'.get? b = some o) → Q (.ref (s.heap.objs.size + 1)) { s with heap := h' }) :
    wpAny (model pg wd) ar (call (.type "enumerate") [.ref tp]) Q E s := by
  refine callType_new F.called_enumerate (by decide) (F.typeCall_enumerate_1 _) (F.newCall_enumerate_1 _) (fun ob => F.args_object_init_2 ob _) F.entry_enumerate_new (enum_new_tup tp vals) ⟨ht, ?_⟩
  have sz1 : (s.heap.push { cls := .type "tuple_iterator", data := .fields #[.ref tp, .int 0 0] }).objs.size = s.heap.objs.size + 1 := Heap.size_push ..
  show _ ∧ _
  rw [sz1]
  have en : IsEnum ((s.heap.push { cls := .type "tuple_iterator", data := .fields #[.ref tp, .int 0 0] }).push { cls := .type "enumerate", data := .fields #[.none, .bool false, .ref s.heap.objs.size, rawInt 0, .none, .none] }) (s.heap.objs.size + 1) s.heap.objs.size 0 .none := by
    have z := Heap.get?_push_size (s.heap.push { cls := .type "tuple_iterator", data := .fields #[.ref tp, .int 0 0] }) (o := { cls := .type "enumerate", data := .fields #[.none, .bool false, .ref s.heap.objs.size, rawInt 0, .none, .none] }) rfl
    rw [sz1] at z
    exact z
  exact ⟨⟨_, en, rfl⟩, hq _ en ⟨_, Heap.get?_push_of_some _ (Heap.get?_push_size _ rfl), rfl, rfl⟩ fun b o x => Heap.get?_push_of_some _ (Heap.get?_push_of_some _ x)⟩
/-- the tuple at a, each item in a new pair with its place -/
def IteT (K : PySem.W.Frag) (a : Addr) : It where
  go := fun i H => ∃ (xs : List V) (x : V), SqT K H a xs ∧ xs[i]? = some x
  yld := fun i H v H' => ∃ T x, v = .ref T ∧ H T = none ∧ H' = upd H T (.tup [.int (i : Nat), x]) ∧ ∀ xs, SqT K H a xs → xs[i]? = some x
  stop := fun i H => ∃ xs : List V, SqT K H a xs ∧ xs.length = i
theorem isTuple_of {h : Heap} {a : Addr} {its : Array Value} (p : IsTup h a its) : h.IsTuple a its := by
  obtain ⟨o, h1, h2, n, h3⟩ := p
  exact ⟨o, h1, h2, n, h3⟩
theorem turn_enumT {P : Program} {w : World} {K : PySem.W.Frag} {elts : List Expr} {kk : Nat} {tpos : Pos} (a en it : Addr) :
    Turn P w K (.Tuple elts kk tpos) (IteT K a) [en, it] en (fun i h => (∃ old, IsEnum h en it ((i : Nat) : Int) old) ∧ h.IsTupleIter it a i ∧ en ≠ it) where
  mem := by simp
  obj := fun i h st b hb => by
    obtain ⟨⟨old, h1⟩, ⟨o, ho, _, hd⟩, _⟩ := st
    rcases (by simpa using hb : b = en ∨ b = it) with z | z
    · rw [z]
      exact ⟨_, h1, fun v q => nomatch q⟩
    · rw [z]
      exact ⟨o, ho, fun v q => by rw [hd] at q; cases q⟩
  keep := fun i h h' st k => by
    obtain ⟨⟨old, h1⟩, h2, h3⟩ := st
    exact ⟨⟨old, k en (by simp) _ h1⟩, h2.at fun o q => k it (by simp) o q, h3⟩
  item := by
    intro X eP ew eK hcalm i pins s σ H E I fpk st hgo
    subst eP ew eK
    obtain ⟨⟨old, h1⟩, h2, hne⟩ := st
    obtain ⟨xs, x, hq, hx⟩ := hgo
    obtain ⟨its, rv, p, hz⟩ := I.tuple hq
    obtain ⟨u, hu, ru⟩ := rv.get hx
    have l1 : en < s.heap.objs.size := Heap.lt_size h1
    have l2 : it < s.heap.objs.size := by
      obtain ⟨_, q, _⟩ := h2
      exact Heap.lt_size q
    have pt := isTuple_of p
    have nai : a ≠ it := fun z => by
      obtain ⟨o1, q1, q2, _⟩ := h2
      obtain ⟨o2, r1, r2, _⟩ := pt
      rw [z, q1] at r1
      cases r1
      rw [q2] at r2
      exact absurd r2 (by decide)
    have nae : a ≠ en := fun z => by
      obtain ⟨o2, r1, r2, _⟩ := pt
      rw [z, h1] at r1
      cases r1
      exact absurd (show Value.type "enumerate" = Value.type "tuple" from r2) (by decide)
    have dr := Draws.tuple (prog := X.prog) (w := X.w) (A := X.A.in1) (show X.A.in1.handled = none from I.ok.hd hcalm) it a nai its.toArray
    have hlen : i < its.toArray.size := by
      have h3 := (List.getElem?_eq_some_iff.mp hu).1
      simpa using h3
    refine wpAny_pyNext_enum_itemD dr h1 ⟨h2, pt⟩ hlen hne (by simp; exact ⟨hne, nae.symm⟩) fun y h' tk py ho st' hT hsz hk => ?_
    have ey : y = u := by
      have e2 : its.toArray[i]? = some u := by simpa using hu
      exact Option.some.inj (py.symm.trans e2)
    subst ey
    refine ⟨_, rfl, wpAny_letOwnedTupleGo_enum (s := { s with heap := h', toks := tk + 1 }) ho fun h'' he' sb => ?_⟩
    have hT2 : h''.get? s.heap.objs.size = some { cls := .type "tuple", data := .seq #[.int i tk, y] } := (sb.2 _ (Nat.ne_of_gt l1)).trans hT
    have nw : ObjOk X.prog X.w (upd H s.heap.objs.size (.tup [.int (i : Nat), x])) h'' s.heap.objs.size (.tup [.int (i : Nat), x]) :=
      ⟨by show 2 ≤ sizeLine; decide, [.int i tk, y], .cons ⟨_, rfl⟩ (.cons ru .nil), ⟨_, hT2, rfl, _, rfl⟩⟩
    have J1 : Inv X pins σ (upd H s.heap.objs.size (.tup [.int (i : Nat), x])) { s with heap := h'', toks := tk + 1 } :=
      I.turnedNew (ch := [en, it]) (fun b ob hb q => (sb.2 b (fun z => hb (by simp [z]))).trans (hk b ob (fun z => hb (by simp [z])) (fun z => hb (by simp [z])) q)) fpk (Nat.le_refl _) nw
    refine ⟨.ref s.heap.objs.size, _, J1, rfl, ⟨_, x, rfl, I.hok.fresh (Nat.le_refl _), rfl, fun ys hy => by rw [I.tuple_inj hy hq]; exact hx⟩, ⟨⟨y, ?_⟩, st'.1.at fun o q => (sb.2 it (Ne.symm hne)).trans q, hne⟩, fun b hb => ?_⟩
    · have e1 : ((i + 1 : Nat) : Int) = (i : Int) + 1 := by omega
      rw [e1]
      exact he'
    · have hb' : b < s.heap.objs.size := by
        rcases (by simpa using hb : b = en ∨ b = it) with z | z
        · rw [z]
          exact l1
        · rw [z]
          exact l2
      rw [upd_ne (Nat.ne_of_lt hb')]
      exact (fpk b hb).1
  done := by
    intro X eP ew eK hcalm i pins s σ H E I fpk st hst
    subst eP ew eK
    obtain ⟨⟨old, h1⟩, h2, hne⟩ := st
    obtain ⟨xs, hq, hx⟩ := hst
    obtain ⟨its, rv, p, hz⟩ := I.tuple hq
    obtain ⟨f0, f1, f2, f3, f4, f5⟩ := fpk it (by simp)
    have hlen := rv.length
    have pt := isTuple_of p
    have nai : a ≠ it := fun z => by
      obtain ⟨o1, q1, q2, _⟩ := h2
      obtain ⟨o2, r1, r2, _⟩ := pt
      rw [z, q1] at r1
      cases r1
      rw [q2] at r2
      exact absurd r2 (by decide)
    have dr := Draws.tuple (prog := X.prog) (w := X.w) (A := X.A.in1) (show X.A.in1.handled = none from I.ok.hd hcalm) it a nai its.toArray
    have ei : i = its.toArray.size := by
      simp
      omega
    rw [ei] at h2
    exact wpAny_pyNext_enum_endD dr h1 ⟨h2, pt⟩ fun h' eb => ⟨rfl, I.turned (t' := s.toks) (fun b o hb q => eb b o hb q) f0 f1 f3 f4 f5⟩
  self := fun A i s Q E st h => by
    obtain ⟨⟨_, h1⟩, _⟩ := st
    exact wpAny_pyIter_enum h1 h
def iEnumT (K : PySem.W.Frag) (ta : TA) : TI := fun σ H R => ta σ H fun vs H1 => ∃ a xs, vs = [.ref a] ∧ SqT K H1 a xs ∧ R (IteT K a) H1
theorem pi_enumT {X : Cx} {e : Expr} {ta : TA} {p pos tpos : Pos} {elts : List Expr} {kk : Nat} (hg : Gl X "enumerate") (hm : X.mg "enumerate" = none) (ha : PA X [e] ta) (hs : starEach [e] X.env = [(false, eval e X.env)] := by rfl) :
    PI X (.Tuple elts kk tpos) (.Call (.Name "enumerate" p) [e] [] pos) (iEnumT X.K ta) := by
  refine ⟨fun pins s σ H R I hh => ?_⟩
  refine Call_ (ld_blt I hg hm boot_enumerate (PyProof.Rows.callWith_type1 (thn (ha.run pos pins s σ H _ I hh) fun us s1 ⟨vs, H1, I1, r1, q1⟩ => ?_) hs rfl))
  obtain ⟨a, xs, ex, hq, q⟩ := q1
  subst ex
  cases r1 with
  | cons r rr =>
    cases rr
    cases r
    obtain ⟨its, rv, p', hz⟩ := I1.tuple hq
    refine enum_call_tup (isTuple_of p') fun h' he hit hk => wpAny_pyIter_enum he ?_
    have I2 : Inv X pins σ H1 { s1 with heap := h' } := I1.kept (t' := s1.toks) hk
    refine ⟨s1.heap.objs.size + 1, [s1.heap.objs.size + 1, s1.heap.objs.size], _, _, H1, rfl, I2, turn_enumT a _ _, ⟨⟨.none, he⟩, hit, Nat.succ_ne_self _⟩, fun b hb => ?_, q⟩
    have hle : s1.heap.objs.size ≤ b := by
      rcases (by simpa using hb : b = s1.heap.objs.size + 1 ∨ b = s1.heap.objs.size) with z | z
      · rw [z]
        omega
      · rw [z]
        exact Nat.le_refl _
    exact I1.fpOk hle (I1.hok.fresh hle)
theorem walk_enumT {K : PySem.W.Frag} {a : Addr} {xs : List V} : Walk (IteT K a) xs.length (fun H => SqT K H a xs) (YPair (fun i => some (.int (i : Nat))) (fun i => xs[i]?)) := by
  refine ⟨fun i _ hi q => ⟨xs, xs[i], q, by simp [hi]⟩, fun _ q => ⟨xs, q, rfl⟩, fun i H v H' _ q y => ?_⟩
  obtain ⟨T, x, h1, h2, h3, h4⟩ := y
  exact ⟨T, .int (i : Nat), x, h1, h2, h3, rfl, h4 xs q⟩
theorem w_enumT {K : PySem.W.Frag} {σ : L2.St} {H : Hp} {ta : TA} {R : It → Hp → Prop} (h : ta σ H fun vs H1 => ∃ a xs, vs = [.ref a] ∧ SqT K H1 a xs ∧ R (IteT K a) H1) : iEnumT K ta σ H R := h
end RG
/-! ### slices and sums of tuples that are data -/
namespace RG
open PySem PySem.Spec PyProof.Rows L2
section
variable {K : PySem.W.Frag} {H : Hp} {Q : VK}
theorem dpAll_take : ∀ {vs : List V} {ds : List PyData} (n : Nat), DpAll K H vs ds → DpAll K H (vs.take n) (ds.take n)
  | _, _, 0, _ => by simpa using (DpAll.nil : DpAll K H [] [])
  | _, _, _ + 1, .nil => .nil
  | _, _, n + 1, .cons a b => .cons a (dpAll_take n b)
theorem dpAll_drop : ∀ {vs : List V} {ds : List PyData} (n : Nat), DpAll K H vs ds → DpAll K H (vs.drop n) (ds.drop n)
  | _, _, 0, h => h
  | _, _, _ + 1, .nil => .nil
  | _, _, n + 1, .cons _ b => dpAll_drop n b
/-- t[k:] -/
theorem w_slFrom {v : V} {ds : List PyData} {k : Nat} (hd : Dp K H v (.tuple ds)) (h : ∀ u H', Same H H' → Dp K H' u (.tuple (ds.drop k)) → Q u H') : rSlA K v (some (k : Nat)) none H Q := by
  obtain ⟨a, xs, rfl, hs, hx⟩ := dp_tuple hd
  have hl := dpAll_len hx
  have e1 : HT.sIx xs.length 0 (some ((k : Nat) : Int)) = min k xs.length := HT.sIx_nat _ 0 k
  have e2 : HT.sIx xs.length xs.length none = xs.length := HT.sIx_none _ _
  refine ⟨a, xs, rfl, hs, fun z => ?_, fun _ p np => ?_⟩
  · rw [e1] at z
    refine h _ H (Same.refl _) (.tup hs ?_)
    rcases Nat.eq_zero_or_pos k with k0 | k0
    · subst k0
      exact hx
    · have : xs = [] := List.eq_nil_of_length_eq_zero (by omega)
      subst this
      cases hx
      simpa using (DpAll.nil : DpAll K H [] [])
  · refine h _ _ (Same.new np) (.tup (tupOf upd_same) ?_)
    have e3 : cutV xs (some ((k : Nat) : Int)) none = xs.drop k := by
      unfold cutV
      rw [e1, e2]
      rcases Nat.le_total k xs.length with hk | hk
      · rw [Nat.min_eq_left hk]
        exact List.take_of_length_le (by simp)
      · rw [Nat.min_eq_right hk, List.drop_of_length_le hk, List.drop_of_length_le (Nat.le_refl _)]
        simp
    rw [e3]
    exact dps_s (Same.new np) (dpAll_drop k hx)
/-- t[:k] -/
theorem w_slTo {v : V} {ds : List PyData} {k : Nat} (hd : Dp K H v (.tuple ds)) (h : ∀ u H', Same H H' → Dp K H' u (.tuple (ds.take k)) → Q u H') : rSlA K v none (some (k : Nat)) H Q := by
  obtain ⟨a, xs, rfl, hs, hx⟩ := dp_tuple hd
  have hl := dpAll_len hx
  have e1 : HT.sIx xs.length 0 none = 0 := HT.sIx_none _ _
  have e2 : HT.sIx xs.length xs.length (some ((k : Nat) : Int)) = min k xs.length := HT.sIx_nat _ _ k
  refine ⟨a, xs, rfl, hs, fun z => ?_, fun _ p np => ?_⟩
  · rw [e2] at z
    refine h _ H (Same.refl _) (.tup hs ?_)
    rw [List.take_of_length_le (by omega)]
    exact hx
  · refine h _ _ (Same.new np) (.tup (tupOf upd_same) ?_)
    have e3 : cutV xs none (some ((k : Nat) : Int)) = xs.take k := by
      unfold cutV
      rw [e1, e2]
      show xs.take (min k xs.length - 0) = xs.take k
      rw [Nat.sub_zero, List.take_eq_take_iff]
      omega
    rw [e3]
    exact dps_s (Same.new np) (dpAll_take k hx)
/-- t + u -/
theorem w_catD {x y : V} {ds es : List PyData} (hx : Dp K H x (.tuple ds)) (hy : Dp K H y (.tuple es)) (z : ds.length + es.length ≤ 100000) (h : ∀ u H', Same H H' → Dp K H' u (.tuple (ds ++ es)) → Q u H') : rCatA K x y H Q := by
  obtain ⟨a, xs, rfl, ha, hxs⟩ := dp_tuple hx
  obtain ⟨b, ys, rfl, hb, hys⟩ := dp_tuple hy
  have l1 := dpAll_len hxs
  have l2 := dpAll_len hys
  refine ⟨a, b, xs, ys, rfl, rfl, ha, hb, sz (by omega), fun e => ?_, fun _ e => ?_, fun _ _ p np => ?_⟩
  · subst e
    cases hxs
    exact h _ H (Same.refl _) hy
  · subst e
    cases hys
    rw [List.append_nil] at h
    exact h _ H (Same.refl _) hx
  · exact h _ _ (Same.new np) (.tup (tupOf upd_same) (dps_s (Same.new np) (dpAll_app hxs hys)))
/-- xs[:k] of a list -/
theorem w_slLTo {a : Addr} {xs : List V} {k : Nat} (s : SqL K H a xs) (h : ∀ p, H p = none → Q (.ref p) (upd H p (.lst (xs.take k)))) : rSlL K (.ref a) none (some (k : Nat)) H Q := by
  refine ⟨a, xs, rfl, s, fun p np => ?_⟩
  have e1 : HT.sIx xs.length 0 none = 0 := HT.sIx_none _ _
  have e2 : HT.sIx xs.length xs.length (some ((k : Nat) : Int)) = min k xs.length := HT.sIx_nat _ _ k
  have e3 : cutV xs none (some ((k : Nat) : Int)) = xs.take k := by
    unfold cutV
    rw [e1, e2]
    show xs.take (min k xs.length - 0) = xs.take k
    rw [Nat.sub_zero, List.take_eq_take_iff]
    omega
  rw [e3]
  exact h p np
end
theorem rel_lookup {env : Env} {x : Str} : ∀ {ns : List (Str × NameKind)}, ns.lookup x = some .cell ∨ ns.lookup x = some .free → (ns.map fun (n, k) => if (k == NameKind.free && env.scope.kind == .function && env.kindOf n == some .cell) then (n, NameKind.cell) else (n, k)).lookup x = some .cell ∨ (ns.map fun (n, k) => if (k == NameKind.free && env.scope.kind == .function && env.kindOf n == some .cell) then (n, NameKind.cell) else (n, k)).lookup x = some .free
  | [], h => by simp at h
  | (n, k) :: r, h => by
    have ih := @rel_lookup env x r
    rw [List.map_cons]
    cases hx : x == n with
    | true =>
      simp only [List.lookup_cons, hx] at h
      dsimp only
      split
      · left
        simp only [List.lookup_cons, hx]
      · simp only [List.lookup_cons, hx]
        exact h
    | false =>
      simp only [List.lookup_cons, hx] at h
      dsimp only
      split <;> simp only [List.lookup_cons, hx] <;> exact ih h
/-- a block in a block -/
theorem blkOk_in {N : List Str} {sc scope : Scope} {own : List (Str × Nat)} {cl : List (Str × Addr)} {C : Addr} {env : Env} (h : blkC N sc scope own = true) : BlkOk N (compEnvC sc cl C env).scope scope own := by
  have k := blkOk_by h
  exact ⟨k.kind, k.uniq, k.ix, fun y hy e => rel_lookup (k.free y hy e), k.own⟩

end RG

namespace RG
open PySem PySem.Spec PyProof.Rows L2
theorem back_adjust (n : Nat) : Builtin.Slice.sliceAdjust none none (-1) (n : Int) = ((n : Int) - 1, -1) := rfl
theorem back_places (n : Nat) : Builtin.Slice.slicePlaces ((n : Int) - 1) (-1) (-1) = n := by
  unfold Builtin.Slice.slicePlaces
  rw [if_neg (by decide)]
  split
  · have : ((n : Int) - 1 - -1 - 1) / (- -1) = (n : Int) - 1 := by
      rw [show (- -1 : Int) = 1 from rfl, Int.ediv_one]
      omega
    omega
  · omega
theorem fm_congr {α β : Type} {f g : α → Option β} : ∀ {l : List α}, (∀ m ∈ l, f m = g m) → l.filterMap f = l.filterMap g
  | [], _ => rfl
  | a :: l, h => by
    rw [List.filterMap_cons, List.filterMap_cons, h a (by simp), fm_congr fun m hm => h m (by simp [hm])]
theorem back_pick (xs : Array Value) : ((List.range xs.size).filterMap fun (m : Nat) => xs[((xs.size : Int) - 1 + (m : Int) * (-1)).toNat]?).toArray = xs.toList.reverse.toArray := by
  have e : ∀ m ∈ List.range xs.size, xs[((xs.size : Int) - 1 + (m : Int) * (-1)).toNat]? = xs.toList.reverse[m]? := by
    intro m hm
    have hm := List.mem_range.mp hm
    rw [List.getElem?_reverse (by simpa using hm), show ((xs.size : Int) - 1 + (m : Int) * (-1)).toNat = xs.size - 1 - m by omega]
    simp
  rw [fm_congr e]
  congr 1
  have : ∀ l : List Value, (List.range l.length).filterMap (fun m => l[m]?) = l := by
    intro l
    induction l with
    | nil => rfl
    | cons a l ih =>
      rw [List.length_cons, List.range_succ_eq_map, List.filterMap_cons]
      simp only [List.getElem?_cons_zero, List.filterMap_map]
      congr 1
  have h := this xs.toList.reverse
  rw [List.length_reverse, Array.length_toList] at h
  exact h
section
variable {prog : Program} {w : World} {A : Around} {E : Value → Shared → Prop} {s : Shared}
open HT in
theorem back_applied {sl : Addr} {vl vu vs : Value} {n : Nat} {Q : Int × Int × Nat → Shared → Prop} (hs : s.heap.IsSliceOf sl vl vu vs) (pl : IsPart vl none) (pu : IsPart vu none) (ps : IsPart vs (some (-1)))
    (h : Q ((n : Int) - 1, -1, n) s) : wpAny (model prog w) A (Builtin.Slice.sliceApplied (.ref sl) (pure (n : Int))) Q E s := by
  obtain ⟨os, hoo, hcc, hdd⟩ := id hs
  unfold Builtin.Slice.sliceApplied Builtin.Slice.sliceFields
  refine wpAny_bind (wpAny_bind (wpAny_field hoo hdd (x := vl) rfl (wpAny_bind (wpAny_field hoo hdd (x := vu) rfl (wpAny_bind (wpAny_field hoo hdd (x := vs) rfl (wpAny_pure ?_)))))))
  refine wpAny_bind (slicePart_ ps ?_)
  show wpAny _ _ (if ((-1 : Int) == 0) = true then _ else _) _ _ s
  rw [if_neg (by decide)]
  refine wpAny_bind (slicePart_ pl (wpAny_bind (slicePart_ pu (wpAny_bind (wpAny_pure ?_)))))
  show wpAny _ _ (pure ((n : Int) - 1, (-1 : Int), Builtin.Slice.slicePlaces ((n : Int) - 1) (-1) (-1))) _ _ s
  rw [back_places]
  exact wpAny_pure h
open HT in
theorem back_tuple {t sl : Addr} {items : Array Value} {vl vu vs : Value} {Q : Value → Shared → Prop} (htp : IsTup s.heap t items) (hs : s.heap.IsSliceOf sl vl vu vs) (pl : IsPart vl none) (pu : IsPart vu none) (ps : IsPart vs (some (-1)))
    (h : Q (.ref s.heap.objs.size) { s with heap := s.heap.push { cls := .type "tuple", data := .seq items.toList.reverse.toArray } })
    (hle : items.size ≤ sizeLine) : wpAny (model prog w) A (getItem (.ref t) (.ref sl)) Q E s := by
  have hnew : sizeOk (.seq items.toList.reverse.toArray) := by
    show items.toList.reverse.toArray.size ≤ sizeLine
    rw [List.size_toArray, List.length_reverse, Array.length_toList]
    exact hle
  obtain ⟨os, hoo, hcc, hdd⟩ := id hs
  have hTy : s.TypeIs (.ref sl) "slice" := ⟨os, hoo, hcc⟩
  unfold getItem
  try with_reducible refine wpAny_holding ?_
  first | refine wpAny_bind (wpAny_pure ?_) | skip
  refine wpAny_bind (wpAny_sequenceKey htp.typeIs (by decide) ?_)
  refine wpAny_bind (wpAny_callSpecial?_slot (name := Str.ofString "__getitem__") htp.typeIs PyProof.Rows.slot_tuple_getitem (wpAny_call_entry PyProof.Rows.slot_tuple_getitem htp.typeIs entry_tuple_getitem ?_ (args_tuple_getitem _ _)))
  show wpAny _ _ (Builtin.Tuple.tupleItemsOf (.ref t) >>= _) _ _ s
  refine wpAny_bind (tupleItemsOf_ htp ?_)
  refine wpAny_bind (wpAny_typeOf hTy ?_)
  rw [if_pos (by decide)]
  refine wpAny_bind (back_applied hs pl pu ps ?_)
  have hno : ¬ ((((items.size : Int) - 1) == 0 && (-1 : Int) == 1 && items.size == items.size) = true) := by simp
  show wpAny _ _ (if (((items.size : Int) - 1) == 0 && (-1 : Int) == 1 && items.size == items.size) = true then _ else _) _ _ s
  rw [if_neg hno, back_pick]
  first
    | exact wpAny_bind (m := Builtin.Tuple.tupleExact _) (wpAny_newObj_type (wpAny_pure ⟨_, rfl, wpAny_pure h⟩) hnew)
    | exact wpAny_bind (m := Builtin.Tuple.tupleExact _) (wpAny_newObj_type (wpAny_bind (wpAny_pure (wpAny_pure ⟨_, rfl, wpAny_pure h⟩))) hnew)
    | exact wpAny_bind (wpAny_bind (m := Builtin.Tuple.tupleExact _) (wpAny_newObj_type (wpAny_pure (wpAny_pure ⟨_, rfl, wpAny_pure h⟩)) hnew))
    | exact wpAny_bind (wpAny_bind (m := Builtin.Tuple.tupleExact _) (wpAny_newObj_type (wpAny_pure ⟨_, rfl, wpAny_pure h⟩) hnew))
end
/-- t[::-1], t a tuple -/
def tBackT (K : PySem.W.Frag) (te : TE) : TE := fun σ H Q => te σ H fun x H1 => ∃ a xs, x = .ref a ∧ SqT K H1 a xs ∧ ∀ p, H1 p = none → Q (.ref p) (upd H1 p (.tup xs.reverse))
section
variable {X : Cx}
theorem pe_backT {e : Expr} {te : TE} {k : Nat} {p1 p2 p3 pos : Pos} (he : PE X e te) : PE X (.Subscript e (.Slice none none (some (.UnaryOp .USub (.Constant (.int 1) k p1) p2)) p3) pos) (tBackT X.K te) := by
  refine ⟨fun pn s σ H Q I h => ?_⟩
  refine Subscript_ (thn (he.run pn s σ H _ I h) fun v z1 ⟨x, H1, J1, rv, qv⟩ => ?_)
  obtain ⟨a, xs, ex, hx, q⟩ := qv
  subst ex
  cases rv
  have hpm : PO X (some (.UnaryOp .USub (.Constant (.int 1) k p1) p2)) (tPart (tUn (rU fun i => .int (-i)) (tC (.int 1)))) := po_some (pe_un un_neg pe_int)
  refine wpAny_Slice (thn (po_none.run pn z1 σ H1 (fun o H2 => o = none ∧ H2 = H1) J1 ⟨rfl, rfl⟩) fun vl z2 ⟨l, H2, J2, pl, el, e2⟩ => ?_)
  subst el e2
  refine thn (po_none.run pn z2 σ H2 (fun o H3 => o = none ∧ H3 = H2) J2 ⟨rfl, rfl⟩) fun vu z3 ⟨u, H3, J3, pu, eu, e3⟩ => ?_
  subst eu e3
  refine thn (hpm.run pn z3 σ H3 (fun o H4 => o = some (-1) ∧ H4 = H3) J3 ⟨1, rfl, -1, rfl, rfl, rfl⟩) fun vs z4 ⟨o, H4, J4, ps, eo, e4⟩ => ?_
  subst eo e4
  have J5 : Inv X pn σ H4 { z4 with heap := z4.heap.push { cls := .type "slice", data := .fields #[vl, vu, vs] } } := J4.kept (t' := z4.toks) fun b ob q => Heap.get?_push_of_some _ q
  obtain ⟨its, r, htp, hz⟩ := J5.tuple hx
  have hlen := r.length
  show wpAny (model X.prog X.w) X.A (subscriptTail e (.Slice none none (some (.UnaryOp .USub (.Constant (.int 1) k p1) p2)) p3) (.ref a) (.ref z4.heap.objs.size)) (EP X pn σ Q) X.xe { z4 with heap := z4.heap.push { cls := .type "slice", data := .fields #[vl, vu, vs] } }
  refine tail_any (ops := [.ref a, .ref z4.heap.objs.size]) htp.typeIs PyProof.Rows.slot_tuple_getitem.lookup ?_ (by with_unfolding_all rfl)
  refine back_tuple htp (Heap.IsSliceOf.new _ vl vu vs) pl pu ps ?_ (by rw [List.size_toArray]; omega)
  refine ⟨.ref _, _, J5.laid (t' := z4.toks) (o := .tup xs.reverse) (fun b ob q => Heap.get?_push_of_some _ q) (Nat.le_refl _) ?_, rfl, q _ (J5.hok.fresh (Nat.le_refl _))⟩
  exact ⟨by rw [List.length_reverse]; exact hz, _, r.reverse, IsTup.new _ _⟩
end
end RG

namespace RG
open PySem PySem.Spec PyProof.Rows L2
theorem w_par3 {σ : L2.St} {H : Hp} {D : Ends} {i j l : Nat} {ta : TA} (h : ta σ H fun vs H1 => ∃ u v w, vs = [u, v, w] ∧ D.nx (((σ.set i (some u)).set j (some v)).set l (some w)) H1) : tPar3 i j l ta D σ H := h
theorem w_back {K : PySem.W.Frag} {σ : L2.St} {H : Hp} {Q : VK} {te : TE} (h : te σ H fun x H1 => ∃ a xs, x = .ref a ∧ SqT K H1 a xs ∧ ∀ p, H1 p = none → Q (.ref p) (upd H1 p (.tup xs.reverse))) : tBackT K te σ H Q := h
end RG
namespace RG
open PySem PySem.Spec PyProof.Rows L2
def top (i : Nat) : Stmt := PySem.Challenge.pw_rollgates_k61_whole_who_loses.main.body.getD i (.Pass ⟨0, 0, 0, 0⟩)
abbrev s_is_number : Stmt := top 13
abbrev s_rest : Stmt := top 14
abbrev s_need_user : Stmt := top 15
abbrev s_need_deal : Stmt := top 16
abbrev s_place_of : Stmt := top 17
abbrev s_is_row : Stmt := top 18
abbrev s_parts_of : Stmt := top 19
abbrev s_is_condition : Stmt := top 20
abbrev s_fits : Stmt := top 21
abbrev s_all_kinds : Stmt := top 22
abbrev s_is_rule : Stmt := top 23
abbrev s_are_rules : Stmt := top 24
abbrev s_need_rules : Stmt := top 25
abbrev s_share_of : Stmt := top 26
abbrev s_lets : Stmt := top 27
abbrev s_is_let : Stmt := top 28
abbrev s_users_from : Stmt := top 30
abbrev s_loser_of : Stmt := top 31
abbrev s_is_step : Stmt := top 34
abbrev s_need_course : Stmt := top 35
abbrev s_need_day : Stmt := top 36
abbrev s_rules_on : Stmt := top 37
abbrev s_day_of : Stmt := top 38
abbrev s_lost : Stmt := top 39
abbrev s__law_cell : Stmt := top 41
abbrev s__law_drawn : Stmt := top 42
abbrev s__law_roll : Stmt := top 43
abbrev s__law_rounds : Stmt := top 44
abbrev s__law_deal : Stmt := top 45
abbrev s__law_user : Stmt := top 46
abbrev s__law_row : Stmt := top 47
abbrev s__law_condition : Stmt := top 48
abbrev s__law_holds : Stmt := top 49
abbrev s__law_rules : Stmt := top 50
abbrev s__law_share : Stmt := top 51
abbrev s__law_kinds : Stmt := top 52
abbrev s__law_let : Stmt := top 53
abbrev s__law_users : Stmt := top 54
abbrev s__law_wider : Stmt := top 55
abbrev s__law_course : Stmt := top 56
abbrev s_law : Stmt := top 57
theorem sc_is_number : FnScope ["thing", "low", "high"] ["thing", "low", "high"] (defScope s_is_number) := ⟨rfl, rfl, rfl, by decide +kernel, rfl, by decide +kernel, by decide +kernel⟩
theorem sc_rest : FnScope ["number", "by"] ["number", "by"] (defScope s_rest) := ⟨rfl, rfl, rfl, by decide +kernel, rfl, by decide +kernel, by decide +kernel⟩
theorem sc_need_user : FnScope ["thing"] ["thing"] (defScope s_need_user) := ⟨rfl, rfl, rfl, by decide +kernel, rfl, by decide +kernel, by decide +kernel⟩
theorem sc_need_deal : FnScope ["thing"] ["thing"] (defScope s_need_deal) := ⟨rfl, rfl, rfl, by decide +kernel, rfl, by decide +kernel, by decide +kernel⟩
theorem sc_place_of : FnScope ["number", "deal"] ["number", "deal"] (defScope s_place_of) := ⟨rfl, rfl, rfl, by decide +kernel, rfl, by decide +kernel, by decide +kernel⟩
theorem sc_is_row : FnScope ["thing", "most", "one", "other"] ["thing", "most"] (defScope s_is_row) := ⟨rfl, rfl, rfl, by decide +kernel, rfl, by decide +kernel, by decide +kernel⟩
theorem sc_parts_of : FnScope ["thing", "deep", "good", "part", "rows"] ["thing", "deep"] (defScope s_parts_of) := ⟨rfl, rfl, rfl, by decide +kernel, rfl, by decide +kernel, by decide +kernel⟩
theorem sc_is_condition : FnScope ["thing"] ["thing"] (defScope s_is_condition) := ⟨rfl, rfl, rfl, by decide +kernel, rfl, by decide +kernel, by decide +kernel⟩
theorem sc_fits : FnScope ["condition", "land", "plan", "part", "rows"] ["condition", "land", "plan"] (defScope s_fits) := ⟨rfl, rfl, rfl, by decide +kernel, rfl, by decide +kernel, by decide +kernel⟩
theorem sc_all_kinds : FnScope ["found", "land", "plan"] [] (defScope s_all_kinds) := ⟨rfl, rfl, rfl, by decide +kernel, rfl, by decide +kernel, by decide +kernel⟩
theorem sc_is_rule : FnScope ["thing"] ["thing"] (defScope s_is_rule) := ⟨rfl, rfl, rfl, by decide +kernel, rfl, by decide +kernel, by decide +kernel⟩
theorem sc_are_rules : FnScope ["thing", "one"] ["thing"] (defScope s_are_rules) := ⟨rfl, rfl, rfl, by decide +kernel, rfl, by decide +kernel, by decide +kernel⟩
theorem sc_need_rules : FnScope ["thing"] ["thing"] (defScope s_need_rules) := ⟨rfl, rfl, rfl, by decide +kernel, rfl, by decide +kernel, by decide +kernel⟩
theorem sc_share_of : FnScope ["rules", "land", "plan", "condition", "many"] ["rules", "land", "plan"] (defScope s_share_of) := ⟨rfl, rfl, rfl, by decide +kernel, rfl, by decide +kernel, by decide +kernel⟩
theorem sc_lets : FnScope ["rules", "deal", "user"] ["rules", "deal", "user"] (defScope s_lets) := ⟨rfl, rfl, rfl, by decide +kernel, rfl, by decide +kernel, by decide +kernel⟩
theorem sc_is_let : FnScope ["rules", "deal", "user"] ["rules", "deal", "user"] (defScope s_is_let) := ⟨rfl, rfl, rfl, by decide +kernel, rfl, by decide +kernel, by decide +kernel⟩
theorem sc_users_from : FnScope ["since", "high", "found", "number", "land", "plan"] ["since", "high"] (defScope s_users_from) := ⟨rfl, rfl, rfl, by decide +kernel, rfl, by decide +kernel, by decide +kernel⟩
theorem sc_loser_of : FnScope ["rules", "other", "deal", "user"] ["rules", "other", "deal"] (defScope s_loser_of) := ⟨rfl, rfl, rfl, by decide +kernel, rfl, by decide +kernel, by decide +kernel⟩
theorem sc_is_step : FnScope ["thing"] ["thing"] (defScope s_is_step) := ⟨rfl, rfl, rfl, by decide +kernel, rfl, by decide +kernel, by decide +kernel⟩
theorem sc_need_course : FnScope ["thing", "one", "other"] ["thing"] (defScope s_need_course) := ⟨rfl, rfl, rfl, by decide +kernel, rfl, by decide +kernel, by decide +kernel⟩
theorem sc_need_day : FnScope ["thing"] ["thing"] (defScope s_need_day) := ⟨rfl, rfl, rfl, by decide +kernel, rfl, by decide +kernel, by decide +kernel⟩
theorem sc_rules_on : FnScope ["course", "day", "found", "begin", "rules"] ["course", "day"] (defScope s_rules_on) := ⟨rfl, rfl, rfl, by decide +kernel, rfl, by decide +kernel, by decide +kernel⟩
theorem sc_day_of : FnScope ["course", "deal", "user", "day", "rules"] ["course", "deal", "user"] (defScope s_day_of) := ⟨rfl, rfl, rfl, by decide +kernel, rfl, by decide +kernel, by decide +kernel⟩
theorem sc_lost : FnScope ["course", "deal", "day", "rules", "later", "other", "user"] ["course", "deal"] (defScope s_lost) := ⟨rfl, rfl, rfl, by decide +kernel, rfl, by decide +kernel, by decide +kernel⟩
theorem sc__law_cell : FnScope ["script", "k"] ["script", "k"] (defScope s__law_cell) := ⟨rfl, rfl, rfl, by decide +kernel, rfl, by decide +kernel, by decide +kernel⟩
theorem sc__law_drawn : FnScope ["cell", "k", "more"] ["cell", "k"] (defScope s__law_drawn) := ⟨rfl, rfl, rfl, by decide +kernel, rfl, by decide +kernel, by decide +kernel⟩
theorem sc__law_roll : FnScope ["dice", "many", "told"] ["dice", "many"] (defScope s__law_roll) := ⟨rfl, rfl, rfl, by decide +kernel, rfl, by decide +kernel, by decide +kernel⟩
theorem sc__law_rounds : FnScope ["script", "most", "k"] ["script", "most"] (defScope s__law_rounds) := ⟨rfl, rfl, rfl, by decide +kernel, rfl, by decide +kernel, by decide +kernel⟩
theorem sc__law_deal : FnScope ["dice"] ["dice"] (defScope s__law_deal) := ⟨rfl, rfl, rfl, by decide +kernel, rfl, by decide +kernel, by decide +kernel⟩
theorem sc__law_user : FnScope ["dice", "number"] ["dice"] (defScope s__law_user) := ⟨rfl, rfl, rfl, by decide +kernel, rfl, by decide +kernel, by decide +kernel⟩
theorem sc__law_row : FnScope ["dice", "most", "at", "found"] ["dice", "most"] (defScope s__law_row) := ⟨rfl, rfl, rfl, by decide +kernel, rfl, by decide +kernel, by decide +kernel⟩
theorem sc__law_condition : FnScope ["dice", "deep", "way", "word", "parts", "turn"] ["dice", "deep"] (defScope s__law_condition) := ⟨rfl, rfl, rfl, by decide +kernel, rfl, by decide +kernel, by decide +kernel⟩
theorem sc__law_holds : FnScope ["condition", "land", "plan", "part"] ["condition", "land", "plan"] (defScope s__law_holds) := ⟨rfl, rfl, rfl, by decide +kernel, rfl, by decide +kernel, by decide +kernel⟩
theorem sc__law_rules : FnScope ["dice", "deep", "found", "turn", "many"] ["dice", "deep"] (defScope s__law_rules) := ⟨rfl, rfl, rfl, by decide +kernel, rfl, by decide +kernel, by decide +kernel⟩
theorem sc__law_share : FnScope ["rules", "land", "plan", "condition", "many"] ["rules", "land", "plan"] (defScope s__law_share) := ⟨rfl, rfl, rfl, by decide +kernel, rfl, by decide +kernel, by decide +kernel⟩
theorem sc__law_kinds : FnScope ["at"] [] (defScope s__law_kinds) := ⟨rfl, rfl, rfl, by decide +kernel, rfl, by decide +kernel, by decide +kernel⟩
theorem sc__law_let : FnScope ["rules", "deal", "user"] ["rules", "deal", "user"] (defScope s__law_let) := ⟨rfl, rfl, rfl, by decide +kernel, rfl, by decide +kernel, by decide +kernel⟩
theorem sc__law_users : FnScope ["low", "high", "found", "number", "kind"] ["low", "high"] (defScope s__law_users) := ⟨rfl, rfl, rfl, by decide +kernel, rfl, by decide +kernel, by decide +kernel⟩
theorem sc__law_wider : FnScope ["rules", "dice", "condition", "many"] ["rules", "dice"] (defScope s__law_wider) := ⟨rfl, rfl, rfl, by decide +kernel, rfl, by decide +kernel, by decide +kernel⟩
theorem sc__law_course : FnScope ["dice", "is_growing", "found", "day", "rules", "turn"] ["dice", "is_growing"] (defScope s__law_course) := ⟨rfl, rfl, rfl, by decide +kernel, rfl, by decide +kernel, by decide +kernel⟩
theorem sc_law : FnScope ["script", "dice", "is_growing", "course", "deal", "due", "at", "one", "other", "user", "some", "found", "turn", "day", "later"] ["script"] (defScope s_law) := ⟨rfl, rfl, rfl, by decide +kernel, rfl, by decide +kernel, by decide +kernel⟩
def d_is_number : He.DefD := ⟨("is_number", none), "is_number", "is_number", defArgs s_is_number, defBody s_is_number, defScope s_is_number, [], []⟩
def d_rest : He.DefD := ⟨("rest", none), "rest", "rest", defArgs s_rest, defBody s_rest, defScope s_rest, [], []⟩
def d_need_user : He.DefD := ⟨("need_user", none), "need_user", "need_user", defArgs s_need_user, defBody s_need_user, defScope s_need_user, [], []⟩
def d_need_deal : He.DefD := ⟨("need_deal", none), "need_deal", "need_deal", defArgs s_need_deal, defBody s_need_deal, defScope s_need_deal, [], []⟩
def d_place_of : He.DefD := ⟨("place_of", none), "place_of", "place_of", defArgs s_place_of, defBody s_place_of, defScope s_place_of, [], []⟩
def d_is_row : He.DefD := ⟨("is_row", none), "is_row", "is_row", defArgs s_is_row, defBody s_is_row, defScope s_is_row, [], []⟩
def d_parts_of : He.DefD := ⟨("parts_of", none), "parts_of", "parts_of", defArgs s_parts_of, defBody s_parts_of, defScope s_parts_of, [], []⟩
def d_is_condition : He.DefD := ⟨("is_condition", none), "is_condition", "is_condition", defArgs s_is_condition, defBody s_is_condition, defScope s_is_condition, [], []⟩
def d_fits : He.DefD := ⟨("fits", none), "fits", "fits", defArgs s_fits, defBody s_fits, defScope s_fits, [], []⟩
def d_all_kinds : He.DefD := ⟨("all_kinds", none), "all_kinds", "all_kinds", defArgs s_all_kinds, defBody s_all_kinds, defScope s_all_kinds, [], []⟩
def d_is_rule : He.DefD := ⟨("is_rule", none), "is_rule", "is_rule", defArgs s_is_rule, defBody s_is_rule, defScope s_is_rule, [], []⟩
def d_are_rules : He.DefD := ⟨("are_rules", none), "are_rules", "are_rules", defArgs s_are_rules, defBody s_are_rules, defScope s_are_rules, [], []⟩
def d_need_rules : He.DefD := ⟨("need_rules", none), "need_rules", "need_rules", defArgs s_need_rules, defBody s_need_rules, defScope s_need_rules, [], []⟩
def d_share_of : He.DefD := ⟨("share_of", none), "share_of", "share_of", defArgs s_share_of, defBody s_share_of, defScope s_share_of, [], []⟩
def d_lets : He.DefD := ⟨("lets", none), "lets", "lets", defArgs s_lets, defBody s_lets, defScope s_lets, [], []⟩
def d_is_let : He.DefD := ⟨("is_let", none), "is_let", "is_let", defArgs s_is_let, defBody s_is_let, defScope s_is_let, [], []⟩
def d_users_from : He.DefD := ⟨("users_from", none), "users_from", "users_from", defArgs s_users_from, defBody s_users_from, defScope s_users_from, [], []⟩
def d_loser_of : He.DefD := ⟨("loser_of", none), "loser_of", "loser_of", defArgs s_loser_of, defBody s_loser_of, defScope s_loser_of, [], []⟩
def d_is_step : He.DefD := ⟨("is_step", none), "is_step", "is_step", defArgs s_is_step, defBody s_is_step, defScope s_is_step, [], []⟩
def d_need_course : He.DefD := ⟨("need_course", none), "need_course", "need_course", defArgs s_need_course, defBody s_need_course, defScope s_need_course, [], []⟩
def d_need_day : He.DefD := ⟨("need_day", none), "need_day", "need_day", defArgs s_need_day, defBody s_need_day, defScope s_need_day, [], []⟩
def d_rules_on : He.DefD := ⟨("rules_on", none), "rules_on", "rules_on", defArgs s_rules_on, defBody s_rules_on, defScope s_rules_on, [], []⟩
def d_day_of : He.DefD := ⟨("day_of", none), "day_of", "day_of", defArgs s_day_of, defBody s_day_of, defScope s_day_of, [], []⟩
def d_lost : He.DefD := ⟨("lost", none), "lost", "lost", defArgs s_lost, defBody s_lost, defScope s_lost, [], []⟩
def d__law_cell : He.DefD := ⟨("_law_cell", none), "_law_cell", "_law_cell", defArgs s__law_cell, defBody s__law_cell, defScope s__law_cell, [], []⟩
def d__law_drawn : He.DefD := ⟨("_law_drawn", none), "_law_drawn", "_law_drawn", defArgs s__law_drawn, defBody s__law_drawn, defScope s__law_drawn, [], []⟩
def d__law_roll : He.DefD := ⟨("_law_roll", none), "_law_roll", "_law_roll", defArgs s__law_roll, defBody s__law_roll, defScope s__law_roll, [], []⟩
def d__law_rounds : He.DefD := ⟨("_law_rounds", none), "_law_rounds", "_law_rounds", defArgs s__law_rounds, defBody s__law_rounds, defScope s__law_rounds, [], []⟩
def d__law_deal : He.DefD := ⟨("_law_deal", none), "_law_deal", "_law_deal", defArgs s__law_deal, defBody s__law_deal, defScope s__law_deal, [], []⟩
def d__law_user : He.DefD := ⟨("_law_user", none), "_law_user", "_law_user", defArgs s__law_user, defBody s__law_user, defScope s__law_user, [], []⟩
def d__law_row : He.DefD := ⟨("_law_row", none), "_law_row", "_law_row", defArgs s__law_row, defBody s__law_row, defScope s__law_row, [], []⟩
def d__law_condition : He.DefD := ⟨("_law_condition", none), "_law_condition", "_law_condition", defArgs s__law_condition, defBody s__law_condition, defScope s__law_condition, [], []⟩
def d__law_holds : He.DefD := ⟨("_law_holds", none), "_law_holds", "_law_holds", defArgs s__law_holds, defBody s__law_holds, defScope s__law_holds, [], []⟩
def d__law_rules : He.DefD := ⟨("_law_rules", none), "_law_rules", "_law_rules", defArgs s__law_rules, defBody s__law_rules, defScope s__law_rules, [], []⟩
def d__law_share : He.DefD := ⟨("_law_share", none), "_law_share", "_law_share", defArgs s__law_share, defBody s__law_share, defScope s__law_share, [], []⟩
def d__law_kinds : He.DefD := ⟨("_law_kinds", none), "_law_kinds", "_law_kinds", defArgs s__law_kinds, defBody s__law_kinds, defScope s__law_kinds, [], []⟩
def d__law_let : He.DefD := ⟨("_law_let", none), "_law_let", "_law_let", defArgs s__law_let, defBody s__law_let, defScope s__law_let, [], []⟩
def d__law_users : He.DefD := ⟨("_law_users", none), "_law_users", "_law_users", defArgs s__law_users, defBody s__law_users, defScope s__law_users, [], []⟩
def d__law_wider : He.DefD := ⟨("_law_wider", none), "_law_wider", "_law_wider", defArgs s__law_wider, defBody s__law_wider, defScope s__law_wider, [], []⟩
def d__law_course : He.DefD := ⟨("_law_course", none), "_law_course", "_law_course", defArgs s__law_course, defBody s__law_course, defScope s__law_course, [], []⟩
def d_law : He.DefD := ⟨("law", none), "law", "law", defArgs s_law, defBody s_law, defScope s_law, [], []⟩
def fnl : List He.DefD := [d_is_number, d_rest, d_need_user, d_need_deal, d_place_of, d_is_row, d_parts_of, d_is_condition, d_fits, d_all_kinds, d_is_rule, d_are_rules, d_need_rules, d_share_of, d_lets, d_is_let, d_users_from, d_loser_of, d_is_step, d_need_course, d_need_day, d_rules_on, d_day_of, d_lost, d__law_cell, d__law_drawn, d__law_roll, d__law_rounds, d__law_deal, d__law_user, d__law_row, d__law_condition, d__law_holds, d__law_rules, d__law_share, d__law_kinds, d__law_let, d__law_users, d__law_wider, d__law_course, d_law]
def fal : List He.Fa := [.glo "is_number", .glo "rest", .glo "need_user", .glo "need_deal", .glo "place_of", .glo "is_row", .glo "parts_of", .glo "is_condition", .glo "fits", .glo "all_kinds", .glo "is_rule", .glo "are_rules", .glo "need_rules", .glo "share_of", .glo "lets", .glo "is_let", .glo "users_from", .glo "loser_of", .glo "is_step", .glo "need_course", .glo "need_day", .glo "rules_on", .glo "day_of", .glo "lost", .glo "_law_cell", .glo "_law_drawn", .glo "_law_roll", .glo "_law_rounds", .glo "_law_deal", .glo "_law_user", .glo "_law_row", .glo "_law_condition", .glo "_law_holds", .glo "_law_rules", .glo "_law_share", .glo "_law_kinds", .glo "_law_let", .glo "_law_users", .glo "_law_wider", .glo "_law_course", .glo "law", .glo "GateError", .exc "GateError", .glo "BadUser", .exc "BadUser", .glo "BadDeal", .exc "BadDeal", .glo "BadRules", .exc "BadRules", .glo "BadDay", .exc "BadDay", .free "ValueError", .free "all", .free "any", .free "bool", .free "int", .free "isinstance", .free "len", .free "max", .free "min", .free "range", .free "str", .free "sum", .free "tuple", .free "zip", .int "GREATEST" 1000000000000, .int "LANDS" 6, .int "PLANS" 4, .int "PLACES" 100, .int "MOST_DEEP" 5, .int "MOST_PARTS" 40, .int "LAST_DAY" 10000]
def tfl : List He.Defn := []
def exl (K : PySem.W.Frag) : Bool := true
structure Tx (K : PySem.W.Frag) (mg : Str → Option Value) : Prop where
  G_is_number : mg "is_number" = some (.ref (He.ga K "is_number"))
  G_rest : mg "rest" = some (.ref (He.ga K "rest"))
  G_need_user : mg "need_user" = some (.ref (He.ga K "need_user"))
  G_need_deal : mg "need_deal" = some (.ref (He.ga K "need_deal"))
  G_place_of : mg "place_of" = some (.ref (He.ga K "place_of"))
  G_is_row : mg "is_row" = some (.ref (He.ga K "is_row"))
  G_parts_of : mg "parts_of" = some (.ref (He.ga K "parts_of"))
  G_is_condition : mg "is_condition" = some (.ref (He.ga K "is_condition"))
  G_fits : mg "fits" = some (.ref (He.ga K "fits"))
  G_all_kinds : mg "all_kinds" = some (.ref (He.ga K "all_kinds"))
  G_is_rule : mg "is_rule" = some (.ref (He.ga K "is_rule"))
  G_are_rules : mg "are_rules" = some (.ref (He.ga K "are_rules"))
  G_need_rules : mg "need_rules" = some (.ref (He.ga K "need_rules"))
  G_share_of : mg "share_of" = some (.ref (He.ga K "share_of"))
  G_lets : mg "lets" = some (.ref (He.ga K "lets"))
  G_is_let : mg "is_let" = some (.ref (He.ga K "is_let"))
  G_users_from : mg "users_from" = some (.ref (He.ga K "users_from"))
  G_loser_of : mg "loser_of" = some (.ref (He.ga K "loser_of"))
  G_is_step : mg "is_step" = some (.ref (He.ga K "is_step"))
  G_need_course : mg "need_course" = some (.ref (He.ga K "need_course"))
  G_need_day : mg "need_day" = some (.ref (He.ga K "need_day"))
  G_rules_on : mg "rules_on" = some (.ref (He.ga K "rules_on"))
  G_day_of : mg "day_of" = some (.ref (He.ga K "day_of"))
  G_lost : mg "lost" = some (.ref (He.ga K "lost"))
  G__law_cell : mg "_law_cell" = some (.ref (He.ga K "_law_cell"))
  G__law_drawn : mg "_law_drawn" = some (.ref (He.ga K "_law_drawn"))
  G__law_roll : mg "_law_roll" = some (.ref (He.ga K "_law_roll"))
  G__law_rounds : mg "_law_rounds" = some (.ref (He.ga K "_law_rounds"))
  G__law_deal : mg "_law_deal" = some (.ref (He.ga K "_law_deal"))
  G__law_user : mg "_law_user" = some (.ref (He.ga K "_law_user"))
  G__law_row : mg "_law_row" = some (.ref (He.ga K "_law_row"))
  G__law_condition : mg "_law_condition" = some (.ref (He.ga K "_law_condition"))
  G__law_holds : mg "_law_holds" = some (.ref (He.ga K "_law_holds"))
  G__law_rules : mg "_law_rules" = some (.ref (He.ga K "_law_rules"))
  G__law_share : mg "_law_share" = some (.ref (He.ga K "_law_share"))
  G__law_kinds : mg "_law_kinds" = some (.ref (He.ga K "_law_kinds"))
  G__law_let : mg "_law_let" = some (.ref (He.ga K "_law_let"))
  G__law_users : mg "_law_users" = some (.ref (He.ga K "_law_users"))
  G__law_wider : mg "_law_wider" = some (.ref (He.ga K "_law_wider"))
  G__law_course : mg "_law_course" = some (.ref (He.ga K "_law_course"))
  G_law : mg "law" = some (.ref (He.ga K "law"))
  G_GateError : mg "GateError" = some (.ref (He.ga K "GateError"))
  X_GateError : Exn K mg "GateError"
  G_BadUser : mg "BadUser" = some (.ref (He.ga K "BadUser"))
  X_BadUser : Exn K mg "BadUser"
  G_BadDeal : mg "BadDeal" = some (.ref (He.ga K "BadDeal"))
  X_BadDeal : Exn K mg "BadDeal"
  G_BadRules : mg "BadRules" = some (.ref (He.ga K "BadRules"))
  X_BadRules : Exn K mg "BadRules"
  G_BadDay : mg "BadDay" = some (.ref (He.ga K "BadDay"))
  X_BadDay : Exn K mg "BadDay"
  Z_ValueError : mg "ValueError" = none
  Z_all : mg "all" = none
  Z_any : mg "any" = none
  Z_bool : mg "bool" = none
  Z_int : mg "int" = none
  Z_isinstance : mg "isinstance" = none
  Z_len : mg "len" = none
  Z_max : mg "max" = none
  Z_min : mg "min" = none
  Z_range : mg "range" = none
  Z_str : mg "str" = none
  Z_sum : mg "sum" = none
  Z_tuple : mg "tuple" = none
  Z_zip : mg "zip" = none
  I_GREATEST : ∃ t, mg "GREATEST" = some (.int 1000000000000 t)
  I_LANDS : ∃ t, mg "LANDS" = some (.int 6 t)
  I_PLANS : ∃ t, mg "PLANS" = some (.int 4 t)
  I_PLACES : ∃ t, mg "PLACES" = some (.int 100 t)
  I_MOST_DEEP : ∃ t, mg "MOST_DEEP" = some (.int 5 t)
  I_MOST_PARTS : ∃ t, mg "MOST_PARTS" = some (.int 40 t)
  I_LAST_DAY : ∃ t, mg "LAST_DAY" = some (.int 10000 t)
  F_is_number : FnAt K "is_number" s_is_number
  F_rest : FnAt K "rest" s_rest
  F_need_user : FnAt K "need_user" s_need_user
  F_need_deal : FnAt K "need_deal" s_need_deal
  F_place_of : FnAt K "place_of" s_place_of
  F_is_row : FnAt K "is_row" s_is_row
  F_parts_of : FnAt K "parts_of" s_parts_of
  F_is_condition : FnAt K "is_condition" s_is_condition
  F_fits : FnAt K "fits" s_fits
  F_all_kinds : FnAt K "all_kinds" s_all_kinds
  F_is_rule : FnAt K "is_rule" s_is_rule
  F_are_rules : FnAt K "are_rules" s_are_rules
  F_need_rules : FnAt K "need_rules" s_need_rules
  F_share_of : FnAt K "share_of" s_share_of
  F_lets : FnAt K "lets" s_lets
  F_is_let : FnAt K "is_let" s_is_let
  F_users_from : FnAt K "users_from" s_users_from
  F_loser_of : FnAt K "loser_of" s_loser_of
  F_is_step : FnAt K "is_step" s_is_step
  F_need_course : FnAt K "need_course" s_need_course
  F_need_day : FnAt K "need_day" s_need_day
  F_rules_on : FnAt K "rules_on" s_rules_on
  F_day_of : FnAt K "day_of" s_day_of
  F_lost : FnAt K "lost" s_lost
  F__law_cell : FnAt K "_law_cell" s__law_cell
  F__law_drawn : FnAt K "_law_drawn" s__law_drawn
  F__law_roll : FnAt K "_law_roll" s__law_roll
  F__law_rounds : FnAt K "_law_rounds" s__law_rounds
  F__law_deal : FnAt K "_law_deal" s__law_deal
  F__law_user : FnAt K "_law_user" s__law_user
  F__law_row : FnAt K "_law_row" s__law_row
  F__law_condition : FnAt K "_law_condition" s__law_condition
  F__law_holds : FnAt K "_law_holds" s__law_holds
  F__law_rules : FnAt K "_law_rules" s__law_rules
  F__law_share : FnAt K "_law_share" s__law_share
  F__law_kinds : FnAt K "_law_kinds" s__law_kinds
  F__law_let : FnAt K "_law_let" s__law_let
  F__law_users : FnAt K "_law_users" s__law_users
  F__law_wider : FnAt K "_law_wider" s__law_wider
  F__law_course : FnAt K "_law_course" s__law_course
  F_law : FnAt K "law" s_law
theorem tx_mk {K : PySem.W.Frag} {mg : Str → Option Value} {h : Heap} {w : World} (X : K.In h) (G : h.Ns mainGlobals mg) (c : He.SaysX fal fnl [] tfl exl w h K) : Tx K mg where
  G_is_number := He.glo_ok X G (c.t.d.fact 0 (f := .glo "is_number") rfl)
  G_rest := He.glo_ok X G (c.t.d.fact 1 (f := .glo "rest") rfl)
  G_need_user := He.glo_ok X G (c.t.d.fact 2 (f := .glo "need_user") rfl)
  G_need_deal := He.glo_ok X G (c.t.d.fact 3 (f := .glo "need_deal") rfl)
  G_place_of := He.glo_ok X G (c.t.d.fact 4 (f := .glo "place_of") rfl)
  G_is_row := He.glo_ok X G (c.t.d.fact 5 (f := .glo "is_row") rfl)
  G_parts_of := He.glo_ok X G (c.t.d.fact 6 (f := .glo "parts_of") rfl)
  G_is_condition := He.glo_ok X G (c.t.d.fact 7 (f := .glo "is_condition") rfl)
  G_fits := He.glo_ok X G (c.t.d.fact 8 (f := .glo "fits") rfl)
  G_all_kinds := He.glo_ok X G (c.t.d.fact 9 (f := .glo "all_kinds") rfl)
  G_is_rule := He.glo_ok X G (c.t.d.fact 10 (f := .glo "is_rule") rfl)
  G_are_rules := He.glo_ok X G (c.t.d.fact 11 (f := .glo "are_rules") rfl)
  G_need_rules := He.glo_ok X G (c.t.d.fact 12 (f := .glo "need_rules") rfl)
  G_share_of := He.glo_ok X G (c.t.d.fact 13 (f := .glo "share_of") rfl)
  G_lets := He.glo_ok X G (c.t.d.fact 14 (f := .glo "lets") rfl)
  G_is_let := He.glo_ok X G (c.t.d.fact 15 (f := .glo "is_let") rfl)
  G_users_from := He.glo_ok X G (c.t.d.fact 16 (f := .glo "users_from") rfl)
  G_loser_of := He.glo_ok X G (c.t.d.fact 17 (f := .glo "loser_of") rfl)
  G_is_step := He.glo_ok X G (c.t.d.fact 18 (f := .glo "is_step") rfl)
  G_need_course := He.glo_ok X G (c.t.d.fact 19 (f := .glo "need_course") rfl)
  G_need_day := He.glo_ok X G (c.t.d.fact 20 (f := .glo "need_day") rfl)
  G_rules_on := He.glo_ok X G (c.t.d.fact 21 (f := .glo "rules_on") rfl)
  G_day_of := He.glo_ok X G (c.t.d.fact 22 (f := .glo "day_of") rfl)
  G_lost := He.glo_ok X G (c.t.d.fact 23 (f := .glo "lost") rfl)
  G__law_cell := He.glo_ok X G (c.t.d.fact 24 (f := .glo "_law_cell") rfl)
  G__law_drawn := He.glo_ok X G (c.t.d.fact 25 (f := .glo "_law_drawn") rfl)
  G__law_roll := He.glo_ok X G (c.t.d.fact 26 (f := .glo "_law_roll") rfl)
  G__law_rounds := He.glo_ok X G (c.t.d.fact 27 (f := .glo "_law_rounds") rfl)
  G__law_deal := He.glo_ok X G (c.t.d.fact 28 (f := .glo "_law_deal") rfl)
  G__law_user := He.glo_ok X G (c.t.d.fact 29 (f := .glo "_law_user") rfl)
  G__law_row := He.glo_ok X G (c.t.d.fact 30 (f := .glo "_law_row") rfl)
  G__law_condition := He.glo_ok X G (c.t.d.fact 31 (f := .glo "_law_condition") rfl)
  G__law_holds := He.glo_ok X G (c.t.d.fact 32 (f := .glo "_law_holds") rfl)
  G__law_rules := He.glo_ok X G (c.t.d.fact 33 (f := .glo "_law_rules") rfl)
  G__law_share := He.glo_ok X G (c.t.d.fact 34 (f := .glo "_law_share") rfl)
  G__law_kinds := He.glo_ok X G (c.t.d.fact 35 (f := .glo "_law_kinds") rfl)
  G__law_let := He.glo_ok X G (c.t.d.fact 36 (f := .glo "_law_let") rfl)
  G__law_users := He.glo_ok X G (c.t.d.fact 37 (f := .glo "_law_users") rfl)
  G__law_wider := He.glo_ok X G (c.t.d.fact 38 (f := .glo "_law_wider") rfl)
  G__law_course := He.glo_ok X G (c.t.d.fact 39 (f := .glo "_law_course") rfl)
  G_law := He.glo_ok X G (c.t.d.fact 40 (f := .glo "law") rfl)
  G_GateError := He.glo_ok X G (c.t.d.fact 41 (f := .glo "GateError") rfl)
  X_GateError := ⟨He.glo_ok X G (c.t.d.fact 41 (f := .glo "GateError") rfl), c.t.d.fact 42 (f := .exc "GateError") rfl⟩
  G_BadUser := He.glo_ok X G (c.t.d.fact 43 (f := .glo "BadUser") rfl)
  X_BadUser := ⟨He.glo_ok X G (c.t.d.fact 43 (f := .glo "BadUser") rfl), c.t.d.fact 44 (f := .exc "BadUser") rfl⟩
  G_BadDeal := He.glo_ok X G (c.t.d.fact 45 (f := .glo "BadDeal") rfl)
  X_BadDeal := ⟨He.glo_ok X G (c.t.d.fact 45 (f := .glo "BadDeal") rfl), c.t.d.fact 46 (f := .exc "BadDeal") rfl⟩
  G_BadRules := He.glo_ok X G (c.t.d.fact 47 (f := .glo "BadRules") rfl)
  X_BadRules := ⟨He.glo_ok X G (c.t.d.fact 47 (f := .glo "BadRules") rfl), c.t.d.fact 48 (f := .exc "BadRules") rfl⟩
  G_BadDay := He.glo_ok X G (c.t.d.fact 49 (f := .glo "BadDay") rfl)
  X_BadDay := ⟨He.glo_ok X G (c.t.d.fact 49 (f := .glo "BadDay") rfl), c.t.d.fact 50 (f := .exc "BadDay") rfl⟩
  Z_ValueError := He.free_ok X G (c.t.d.fact 51 (f := .free "ValueError") rfl)
  Z_all := He.free_ok X G (c.t.d.fact 52 (f := .free "all") rfl)
  Z_any := He.free_ok X G (c.t.d.fact 53 (f := .free "any") rfl)
  Z_bool := He.free_ok X G (c.t.d.fact 54 (f := .free "bool") rfl)
  Z_int := He.free_ok X G (c.t.d.fact 55 (f := .free "int") rfl)
  Z_isinstance := He.free_ok X G (c.t.d.fact 56 (f := .free "isinstance") rfl)
  Z_len := He.free_ok X G (c.t.d.fact 57 (f := .free "len") rfl)
  Z_max := He.free_ok X G (c.t.d.fact 58 (f := .free "max") rfl)
  Z_min := He.free_ok X G (c.t.d.fact 59 (f := .free "min") rfl)
  Z_range := He.free_ok X G (c.t.d.fact 60 (f := .free "range") rfl)
  Z_str := He.free_ok X G (c.t.d.fact 61 (f := .free "str") rfl)
  Z_sum := He.free_ok X G (c.t.d.fact 62 (f := .free "sum") rfl)
  Z_tuple := He.free_ok X G (c.t.d.fact 63 (f := .free "tuple") rfl)
  Z_zip := He.free_ok X G (c.t.d.fact 64 (f := .free "zip") rfl)
  I_GREATEST := He.int_ok X G (c.t.d.fact 65 (f := .int "GREATEST" 1000000000000) rfl)
  I_LANDS := He.int_ok X G (c.t.d.fact 66 (f := .int "LANDS" 6) rfl)
  I_PLANS := He.int_ok X G (c.t.d.fact 67 (f := .int "PLANS" 4) rfl)
  I_PLACES := He.int_ok X G (c.t.d.fact 68 (f := .int "PLACES" 100) rfl)
  I_MOST_DEEP := He.int_ok X G (c.t.d.fact 69 (f := .int "MOST_DEEP" 5) rfl)
  I_MOST_PARTS := He.int_ok X G (c.t.d.fact 70 (f := .int "MOST_PARTS" 40) rfl)
  I_LAST_DAY := He.int_ok X G (c.t.d.fact 71 (f := .int "LAST_DAY" 10000) rfl)
  F_is_number := c.t.d.def_ 0 (d := d_is_number) rfl
  F_rest := c.t.d.def_ 1 (d := d_rest) rfl
  F_need_user := c.t.d.def_ 2 (d := d_need_user) rfl
  F_need_deal := c.t.d.def_ 3 (d := d_need_deal) rfl
  F_place_of := c.t.d.def_ 4 (d := d_place_of) rfl
  F_is_row := c.t.d.def_ 5 (d := d_is_row) rfl
  F_parts_of := c.t.d.def_ 6 (d := d_parts_of) rfl
  F_is_condition := c.t.d.def_ 7 (d := d_is_condition) rfl
  F_fits := c.t.d.def_ 8 (d := d_fits) rfl
  F_all_kinds := c.t.d.def_ 9 (d := d_all_kinds) rfl
  F_is_rule := c.t.d.def_ 10 (d := d_is_rule) rfl
  F_are_rules := c.t.d.def_ 11 (d := d_are_rules) rfl
  F_need_rules := c.t.d.def_ 12 (d := d_need_rules) rfl
  F_share_of := c.t.d.def_ 13 (d := d_share_of) rfl
  F_lets := c.t.d.def_ 14 (d := d_lets) rfl
  F_is_let := c.t.d.def_ 15 (d := d_is_let) rfl
  F_users_from := c.t.d.def_ 16 (d := d_users_from) rfl
  F_loser_of := c.t.d.def_ 17 (d := d_loser_of) rfl
  F_is_step := c.t.d.def_ 18 (d := d_is_step) rfl
  F_need_course := c.t.d.def_ 19 (d := d_need_course) rfl
  F_need_day := c.t.d.def_ 20 (d := d_need_day) rfl
  F_rules_on := c.t.d.def_ 21 (d := d_rules_on) rfl
  F_day_of := c.t.d.def_ 22 (d := d_day_of) rfl
  F_lost := c.t.d.def_ 23 (d := d_lost) rfl
  F__law_cell := c.t.d.def_ 24 (d := d__law_cell) rfl
  F__law_drawn := c.t.d.def_ 25 (d := d__law_drawn) rfl
  F__law_roll := c.t.d.def_ 26 (d := d__law_roll) rfl
  F__law_rounds := c.t.d.def_ 27 (d := d__law_rounds) rfl
  F__law_deal := c.t.d.def_ 28 (d := d__law_deal) rfl
  F__law_user := c.t.d.def_ 29 (d := d__law_user) rfl
  F__law_row := c.t.d.def_ 30 (d := d__law_row) rfl
  F__law_condition := c.t.d.def_ 31 (d := d__law_condition) rfl
  F__law_holds := c.t.d.def_ 32 (d := d__law_holds) rfl
  F__law_rules := c.t.d.def_ 33 (d := d__law_rules) rfl
  F__law_share := c.t.d.def_ 34 (d := d__law_share) rfl
  F__law_kinds := c.t.d.def_ 35 (d := d__law_kinds) rfl
  F__law_let := c.t.d.def_ 36 (d := d__law_let) rfl
  F__law_users := c.t.d.def_ 37 (d := d__law_users) rfl
  F__law_wider := c.t.d.def_ 38 (d := d__law_wider) rfl
  F__law_course := c.t.d.def_ 39 (d := d__law_course) rfl
  F_law := c.t.d.def_ 40 (d := d_law) rfl
abbrev Rw : PySem.W.OpenRow := PySem.W.OpenLaw.row PySem.Challenge.rw_rollgates_k61_whole_who_loses
abbrev hkl : PySem.W.Hook := He.hookX 5 fal fnl [] tfl exl
def obl (s : PySem.W.SharedT) : He.AlX := He.obsX 5 fal fnl [] tfl exl (HandSHeadRun.getT s)
theorem obl_eq (s : PySem.W.SharedT) : obl s = hkl.obs s.abs := He.obsX_eq (HandSHeadRun.getT_eq s)
def nm0 : List Str := ["__name__", "GateError", "BadUser", "BadDeal", "BadRules", "BadDay", "GREATEST", "LANDS", "PLANS", "PLACES", "MOST_DEEP", "MOST_PARTS", "is_number", "rest", "need_user", "need_deal", "place_of", "is_row", "parts_of", "is_condition", "fits", "all_kinds", "is_rule", "are_rules", "need_rules", "share_of", "lets", "is_let", "users_from", "loser_of"]
def nm1 : List Str := ["LAST_DAY", "is_step", "need_course", "need_day", "rules_on", "day_of", "lost", "_law_cell", "_law_drawn", "_law_roll", "_law_rounds", "_law_deal", "_law_user", "_law_row", "_law_condition", "_law_holds", "_law_rules", "_law_share", "_law_kinds", "_law_let", "_law_users", "_law_wider", "_law_course"]
def nml : List Str := nm0 ++ nm1
theorem runl (w : World) : HandSHeadRun.RunEq Rw (PySem.W.view Rw.prog [57]) hkl obl 6140 nml w := by
  intro os
  kernel_rfl
end RG
local macro_rules | `(tactic| walk_at "1") => `(tactic| first
  | with_reducible refine RG.w_seq ?_
  | with_reducible refine RG.w_set ?_
  | with_reducible refine RG.w_asg ?_
  | with_reducible refine RG.w_ret ?_
  | with_reducible refine RG.w_ifs ?_
  | with_reducible refine RG.w_drop ?_
  | with_reducible refine RG.w_next ?_
  | with_reducible refine RG.w_par ?_
  | with_reducible refine RG.w_par3 ?_
  | with_reducible refine RG.w_retN ?_
  | ((with_reducible show L2.tVar _ _ _ _); refine RG.w_var rfl ?_)
  | with_reducible refine RG.w_c ?_
  | with_reducible refine RG.w_op ?_
  | with_reducible refine RG.w_I0 ?_
  | with_reducible refine RG.w_test ?_
  | with_reducible refine RG.w_B ?_
  | with_reducible refine RG.w_and ?_
  | with_reducible refine RG.w_or ?_
  | with_reducible refine RG.w_not ?_
  | with_reducible refine RG.w_cons ?_
  | with_reducible refine RG.w_nil ?_
  | with_reducible refine RG.w_call ?_
  | with_reducible refine RG.w_cb ?_
  | with_reducible refine RG.w_chain ?_
  | with_reducible refine RG.w_andV ?_
  | with_reducible refine RG.w_orV ?_
  | with_reducible refine RG.w_notV ?_
  | with_reducible refine RG.w_if ?_
  | with_reducible refine RG.w_eqI ?_
  | with_reducible refine RG.w_neI ?_
  | with_reducible refine RG.w_eqS ?_
  | with_reducible refine RG.w_isN ?_
  | with_reducible refine RG.w_notN ?_
  | with_reducible refine RG.w_un ?_
  | with_reducible refine RG.w_U ?_
  | with_reducible refine RG.w_tup ?_
  | with_reducible refine RG.w_lst ?_
  | with_reducible refine RG.w_sl ?_
  | with_reducible refine RG.w_part ?_
  | with_reducible refine RG.w_noPart ?_
  | with_reducible refine RG.w_bm ?_
  | with_reducible refine RG.w_bm0 ?_
  | with_reducible refine RG.w_sub ?_
  | with_reducible refine RG.w_name ?_
  | with_reducible refine RG.w_max2 ?_
  | with_reducible refine RG.w_min2 ?_
  | with_reducible refine RG.w_intI ?_
  | with_reducible refine RG.w_intB ?_
  | with_reducible refine RG.w_rz ?_
  | with_reducible refine RG.w_lc ?_
  | with_reducible refine RG.w_for ?_
  | with_reducible refine RG.w_rng1 ?_
  | with_reducible refine RG.w_rng2 ?_
  | with_reducible refine RG.w_iList ?_
  | with_reducible refine RG.w_iTup ?_
  | with_reducible refine RG.w_iEnum ?_
  | with_reducible refine RG.w_iZip ?_
  | with_reducible refine RG.w_yes ?_
  | with_reducible refine RG.w_enumT ?_
  | with_reducible refine RG.w_zipA ?_
  | with_reducible refine RG.w_lrg ?_
  | with_reducible refine RG.w_rg1 ?_
  | with_reducible refine RG.w_gcons ?_
  | with_reducible refine RG.w_gnil ?_
  | with_reducible refine RG.if_t rfl ?_
  | with_reducible refine RG.if_f rfl ?_
  | (with_reducible refine ⟨_, rfl, ?_⟩)
  | (with_reducible refine ⟨_, _, rfl, ?_⟩))
local macro_rules | `(tactic| walk_at "c") => `(tactic| dsimp only [L2.wipe, List.set_cons_zero, List.set_cons_succ, List.append_nil, List.cons_append, List.nil_append, Bool.not_true, Bool.not_false])
local macro_rules | `(tactic| walk_at "0") => `(tactic| simp only [L2.start, List.map_cons, List.map_nil, List.length_cons, List.length_nil, Nat.reduceAdd, Nat.reduceSub, Nat.sub_self, List.replicate_succ, List.replicate_zero, List.cons_append, List.nil_append, List.append_nil])
local macro_rules | `(tactic| walk_at "g") => `(tactic| repeat (walk_at "1"; (try walk_at "c")))
local macro_rules | `(tactic| walk_at "s1") => `(tactic| first
  | with_reducible refine RG.w_seq ?_
  | with_reducible refine RG.w_set ?_
  | with_reducible refine RG.w_ret ?_
  | with_reducible refine RG.w_drop ?_
  | with_reducible refine RG.w_ifs ?_
  | with_reducible refine RG.w_next ?_)
local macro_rules | `(tactic| walk_at "s") => `(tactic| repeat (walk_at "s1"; (try walk_at "c")))
namespace RG
open PySem PySem.Spec PyProof.Rows L2
section
variable {P : Program} {w : World} {K : PySem.W.Frag} {mg : Str → Option Value} {base : Heap}
theorem places_perm {b s t : Int} (h2 : s % 2 ≠ 0) (h5 : s % 5 ≠ 0) (hs0 : 0 ≤ s) (hs1 : s ≤ 99) {i j : Nat} (hi : i < 100) (hj : j < 100) (e : ((b + (i : Int)) * s + t) % 100 = ((b + (j : Int)) * s + t) % 100) : i = j := by
  have h : (((i : Int) - j) * s) % 100 = 0 := by
    have e2 : (((b + (i : Int)) * s + t) - ((b + (j : Int)) * s + t)) % 100 = 0 := by
      rw [Int.sub_emod, e]
      simp
    have e3 : (((b + (i : Int)) * s + t) - ((b + (j : Int)) * s + t)) = ((i : Int) - j) * s := by
      rw [Int.add_mul, Int.add_mul, Int.sub_mul]
      omega
    rw [e3] at e2
    exact e2
  generalize hd : (i : Int) - j = d at h
  have d0 : -99 ≤ d ∧ d ≤ 99 := by omega
  have key : ∀ x : Fin 100, ∀ y : Fin 199, (x.val : Int) % 2 ≠ 0 → (x.val : Int) % 5 ≠ 0 → (((y.val : Int) - 99) * (x.val : Int)) % 100 = 0 → (y.val : Int) = 99 := by decide +kernel
  have k := key ⟨s.toNat, by omega⟩ ⟨(d + 99).toNat, by omega⟩
  have es : (((⟨s.toNat, by omega⟩ : Fin 100).val : Nat) : Int) = s := by
    show ((s.toNat : Nat) : Int) = s
    omega
  have ed : (((⟨(d + 99).toNat, by omega⟩ : Fin 199).val : Nat) : Int) = d + 99 := by
    show (((d + 99).toNat : Nat) : Int) = d + 99
    omega
  rw [es, ed] at k
  have k2 := k h2 h5 (by rw [show d + 99 - 99 = d by omega]; exact h)
  omega
/-- the places of a hundred numbers one behind the other -/
def row100 (b s t : Int) (n : Nat) : List Int := (List.range n).map fun (i : Nat) => ((b + (i : Int)) * s + t) % 100
theorem row100_succ (b s t : Int) (n : Nat) : row100 b s t (n + 1) = row100 b s t n ++ [((b + (n : Int)) * s + t) % 100] := by
  unfold row100
  rw [List.range_succ, List.map_append]
  rfl
theorem row100_nodup {b s t : Int} (h2 : s % 2 ≠ 0) (h5 : s % 5 ≠ 0) (hs0 : 0 ≤ s) (hs1 : s ≤ 99) : (row100 b s t 100).Nodup := by
  unfold row100
  refine List.pairwise_map.mpr (List.Pairwise.imp_of_mem ?_ List.nodup_range)
  intro i j hi hj hne e
  exact hne (places_perm h2 h5 hs0 hs1 (List.mem_range.mp hi) (List.mem_range.mp hj) e)
theorem row100_mem {b s t : Int} {x : Int} (h : x ∈ row100 b s t 100) : 0 ≤ x ∧ x < 100 := by
  unfold row100 at h
  obtain ⟨i, _, rfl⟩ := List.mem_map.mp h
  exact ⟨Int.emod_nonneg _ (by decide), Int.emod_lt_of_pos _ (by decide)⟩
def upto (n : Nat) : List Int := (List.range n).map fun (i : Nat) => (i : Int)
/-- a rising list of hundred unlike numbers below a hundred is 0 .. 99 -/
theorem sorted_is : ∀ (n : Nat) (l : List Int), l.length = n → l.Pairwise (· ≤ ·) → l.Nodup → (∀ x ∈ l, 0 ≤ x ∧ x < n) → l = upto n := by
  intro n
  induction n with
  | zero =>
    intro l h _ _ _
    cases l with
    | nil => rfl
    | cons x r => simp at h
  | succ n ih =>
    intro l hl hp hn hm
    rcases List.eq_nil_or_concat l with rfl | ⟨r, x, rfl⟩
    · simp at hl
    · simp only [List.concat_eq_append] at hl hp hn hm ⊢
      have hrl : r.length = n := by simpa using hl
      obtain ⟨p1, p2, p3⟩ := List.pairwise_append.mp hp
      obtain ⟨n1, n2, n3⟩ := List.pairwise_append.mp hn
      have hlt : ∀ y ∈ r, y < x := fun y hy => by
        have a1 : y ≤ x := p3 y hy x (by simp)
        have a2 : y ≠ x := n3 y hy x (by simp)
        omega
      have hx := hm x (by simp)
      have hr : ∀ y ∈ r, 0 ≤ y ∧ y < n := fun y hy => by
        have a1 := hm y (by simp [hy])
        have a2 := hlt y hy
        have a3 := hx.2
        omega
      have er := ih r hrl p1 n1 hr
      have hxn : x = n := by
        rcases Nat.eq_zero_or_pos n with h0 | h0
        · omega
        · have hmem : ((n - 1 : Nat) : Int) ∈ r := by
            rw [er]
            exact List.mem_map.mpr ⟨n - 1, List.mem_range.mpr (by omega), rfl⟩
          have := hlt _ hmem
          omega
      rw [er, hxn]
      unfold upto
      rw [List.range_succ, List.map_append]
      rfl
theorem row100_perm {b s t : Int} (h2 : s % 2 ≠ 0) (h5 : s % 5 ≠ 0) (hs0 : 0 ≤ s) (hs1 : s ≤ 99) : (row100 b s t 100).Perm (upto 100) := by
  have hp := List.mergeSort_perm (row100 b s t 100) (fun a b => decide (a ≤ b))
  have hs : ((row100 b s t 100).mergeSort fun a b => decide (a ≤ b)).Pairwise (· ≤ ·) := by
    have := List.pairwise_mergeSort (le := fun a b : Int => decide (a ≤ b)) (fun a b c h1 h2 => by simp at *; omega) (fun a b => by simp; omega) (row100 b s t 100)
    exact this.imp fun h => by simpa using h
  have e : ((row100 b s t 100).mergeSort fun a b => decide (a ≤ b)) = upto 100 := by
    refine sorted_is 100 _ ?_ hs (hp.nodup_iff.mpr (row100_nodup h2 h5 hs0 hs1)) fun x hx => row100_mem (hp.mem_iff.mp hx)
    rw [hp.length_eq]
    simp [row100]
  rw [← e]
  exact hp.symm
theorem upto_below : ∀ m : Fin 101, ((upto 100).filter fun x => decide (x < (m.val : Int))).length = m.val := by decide +kernel
/-- just m of a hundred places are below m -/
theorem row100_below {b s t m : Int} (h2 : s % 2 ≠ 0) (h5 : s % 5 ≠ 0) (hs0 : 0 ≤ s) (hs1 : s ≤ 99) (m0 : 0 ≤ m) (m1 : m ≤ 100) : (((row100 b s t 100).filter fun x => decide (x < m)).length : Int) = m := by
  have h := ((row100_perm (b := b) (t := t) h2 h5 hs0 hs1).filter fun x => decide (x < m)).length_eq
  have k := upto_below ⟨m.toNat, by omega⟩
  have e : (((⟨m.toNat, by omega⟩ : Fin 101).val : Nat) : Int) = m := by
    show ((m.toNat : Nat) : Int) = m
    omega
  rw [e] at k
  rw [h, k]
  exact e
/-- a whole number between -/
def isNum (d : PyData) (lo hi : Int) : Bool := match d with
  | .int i => decide (lo ≤ i) && decide (i ≤ hi)
  | _ => false
def spIsNum (K : PySem.W.Frag) : Sp := fun vs H Q _ => ∃ (v : V) (d : PyData) (lo hi : Int), vs = [v, .int lo, .int hi] ∧ Dp K H v d ∧ Q (.bl (isNum d lo hi)) H
def spRest : Sp := fun vs H Q _ => ∃ (n m : Int), vs = [.int n, .int m] ∧ 0 < m ∧ m < 1073741824 ∧ Q (.int (n % m)) H
theorem rest_eq (n m : Int) : n - n / m * m = n % m := by
  rw [Int.emod_def, Int.mul_comm m]
theorem divW {i j : Int} (h : 0 < j) (h2 : j < 18446744073709551616) : CDivW i j := wide_div (b := 64) h (by omega) (by decide) (by decide)
def isUser (d : PyData) : Bool := match d with
  | .tuple [a, b, c] => isNum a 0 1000000000000 && (isNum b 0 5 && isNum c 0 3)
  | _ => false
def spNeedUser (K : PySem.W.Frag) : Sp := fun vs H Q E => ∃ (v : V) (d : PyData), vs = [v] ∧ Dp K H v d ∧ (isUser d = true → Q .non H) ∧ (isUser d = false → E (.ref (He.ga K "BadUser")) none H)
theorem isUser_len {ds : List PyData} (h : ds.length ≠ 3) : isUser (.tuple ds) = false := by
  match ds, h with
  | [], _ => rfl
  | [_], _ => rfl
  | [_, _], _ => rfl
  | [_, _, _], h => exact absurd rfl h
  | _ :: _ :: _ :: _ :: _, _ => rfl
def isDeal (d : PyData) : Bool := match d with
  | .tuple [.int a, .int b] => (decide (0 ≤ a) && decide (a ≤ 99)) && ((decide (0 ≤ b) && decide (b ≤ 99)) && (!decide (a % 2 = 0) && !decide (a % 5 = 0)))
  | _ => false
def spNeedDeal (K : PySem.W.Frag) : Sp := fun vs H Q E => ∃ (v : V) (d : PyData), vs = [v] ∧ Dp K H v d ∧ (isDeal d = true → Q .non H) ∧ (isDeal d = false → E (.ref (He.ga K "BadDeal")) none H)
theorem isDeal_len {ds : List PyData} (h : ds.length ≠ 2) : isDeal (.tuple ds) = false := by
  unfold isDeal
  split
  · rename_i e
    cases e
    exact absurd rfl h
  · rfl
theorem isDeal_a {a b : PyData} (h : isNum a 0 99 = false) : isDeal (.tuple [a, b]) = false := by
  unfold isDeal
  split
  · rename_i e
    cases e
    simp only [isNum] at h
    simp only [h, Bool.false_and]
  · rfl
theorem isDeal_b {a b : PyData} (h : isNum b 0 99 = false) : isDeal (.tuple [a, b]) = false := by
  unfold isDeal
  split
  · rename_i e
    cases e
    simp only [isNum] at h
    simp only [h, Bool.false_and, Bool.and_false]
  · rfl
theorem isNum_int {d : PyData} {lo hi : Int} (h : isNum d lo hi = true) : ∃ i, d = .int i ∧ lo ≤ i ∧ i ≤ hi := by
  unfold isNum at h
  split at h
  · rename_i i
    simp at h
    exact ⟨i, rfl, h.1, h.2⟩
  · cases h
def spPlaceOf (K : PySem.W.Frag) : Sp := fun vs H Q _ => ∃ (n : Int) (v : V) (s t : Int), vs = [.int n, v] ∧ Dp K H v (.tuple [.int s, .int t]) ∧ 0 ≤ s ∧ s ≤ 99 ∧ Q (.int ((n * s + t) % 100)) H
def placeD : PyData → PyData → Int
  | .tuple (.int n :: _), .tuple [.int s, .int t] => (n * s + t) % 100
  | _, _ => 0
def spPlace (K : PySem.W.Frag) : Sp := fun vs H Q E => ∃ (u v : V) (d e : PyData), vs = [u, v] ∧ Dp K H u d ∧ Dp K H v e ∧ (isUser d = true → isDeal e = true → Q (.int (placeD d e)) H) ∧
  (isUser d = false → E (.ref (He.ga K "BadUser")) none H) ∧ (isUser d = true → isDeal e = false → E (.ref (He.ga K "BadDeal")) none H)
theorem isUser_is {d : PyData} (h : isUser d = true) : ∃ n l p : Int, d = .tuple [.int n, .int l, .int p] ∧ 0 ≤ n ∧ n ≤ 1000000000000 ∧ 0 ≤ l ∧ l ≤ 5 ∧ 0 ≤ p ∧ p ≤ 3 := by
  unfold isUser at h
  split at h
  · simp only [Bool.and_eq_true] at h
    obtain ⟨n, rfl, a, b⟩ := isNum_int h.1
    obtain ⟨l, rfl, c, d⟩ := isNum_int h.2.1
    obtain ⟨p, rfl, e, f⟩ := isNum_int h.2.2
    exact ⟨n, l, p, rfl, a, b, c, d, e, f⟩
  · cases h
theorem isDeal_is {d : PyData} (h : isDeal d = true) : ∃ s t : Int, d = .tuple [.int s, .int t] ∧ 0 ≤ s ∧ s ≤ 99 ∧ 0 ≤ t ∧ t ≤ 99 ∧ s % 2 ≠ 0 ∧ s % 5 ≠ 0 := by
  unfold isDeal at h
  split at h
  · rename_i s t
    simp at h
    exact ⟨s, t, rfl, by omega, by omega, by omega, by omega, by omega, by omega⟩
  · cases h
/-- the cell of a script: some int -/
def spCell (K : PySem.W.Frag) : Sp := fun vs H Q _ => ∃ (a : Addr) (k : Int) (ns : List Int), vs = [.ref a, .int k] ∧ SqL K H a (ns.map V.int) ∧ ns.length ≤ 100 ∧ 0 ≤ k ∧ k < 1000 ∧ ∀ z H', Same H H' → Q (.int z) H'
theorem shapedAll_ints : ∀ ns : List Int, PyData.canLayAll0 (ns.map PyData.int) = true
  | [] => rfl
  | n :: ns => by
    simp only [List.map_cons, PyData.canLayAll0, PyData.canLay0, shapedAll_ints ns, Bool.and_self]
theorem depthAll_ints : ∀ ns : List Int, PyData.depthAll (ns.map PyData.int) ≤ 1
  | [] => by simp [PyData.depthAll]
  | n :: ns => by
    have h := depthAll_ints ns
    simp only [List.map_cons, PyData.depthAll, PyData.depth]
    omega
theorem shaped_ints (ns : List Int) : SeqAt.shaped (.list (ns.map PyData.int)) = true := by
  have h1 := shapedAll_ints ns
  have h2 := depthAll_ints ns
  have h3 : PyData.depth (.list (ns.map PyData.int)) ≤ 64 := by
    simp only [PyData.depth]
    omega
  simp only [SeqAt.shaped, PyData.canLay0, h1, decide_eq_true h3, Bool.and_self]
theorem dp_ints {K : PySem.W.Frag} {H : Hp} {a : Addr} {ns : List Int} (h : SqL K H a (ns.map V.int)) : Dp K H (.ref a) (.list (ns.map PyData.int)) := .lst h (dpAll_ints ns)
theorem atI_ints {ns : List Int} {j : Int} (h0 : 0 ≤ j) (h1 : j < ns.length) : ∃ z, atI (ns.map V.int) j = some (.int z) := by
  have hj : j.toNat < ns.length := by omega
  refine ⟨ns[j.toNat], at_of (j := j.toNat) (by omega) ?_⟩
  rw [List.getElem?_map, List.getElem?_eq_getElem hj]
  rfl
def spDrawn : Sp := fun vs H Q _ => ∃ (c k : Int), vs = [.int c, .int k] ∧ ∀ z, 0 ≤ z → Q (.int z) H
theorem mulW {i j : Int} (a : 0 ≤ i) (b : i < 2 ^ 200) (c : 0 ≤ j) (d : j < 2 ^ 200) : CMulW i j := by
  refine wide_mul (a := 200) (b := 200) ?_ ?_ (by decide) (by decide) (by decide)
  · have e : ((2 : Int) ^ 200) = ((2 ^ 200 : Nat) : Int) := by norm_cast
    omega
  · have e : ((2 : Int) ^ 200) = ((2 ^ 200 : Nat) : Int) := by norm_cast
    omega
/-- some number below many; all but the dice stays -/
def spRoll : Sp := fun vs H Q _ => ∃ (a : Addr) (m : Int), vs = [.ref a, .int m] ∧ Dice H a ∧ 0 < m ∧ m < 18446744073709551616 ∧ ∀ r H', 0 ≤ r → r < m → But a H H' → Q (.int r) H'
theorem But.put {a : Addr} {H : Hp} {x k : Int} (d : Dice H a) : But a H (upd H a (.lst [.int x, .int k])) := ⟨d, ⟨x, k, upd_same⟩, fun b o e n => by
  rw [upd_ne n]
  exact e⟩
/-- some dice, each a new list -/
def spRounds (K : PySem.W.Frag) : Sp := fun vs H Q _ => ∃ (a : Addr) (m : Int) (ns : List Int), vs = [.ref a, .int m] ∧ SqL K H a (ns.map V.int) ∧ ns.length ≤ 100 ∧ 1 ≤ m ∧ m ≤ 10 ∧
  ∀ (L : Addr) (ds : List Addr) (H' : Hp), Same H H' → H' L = some (.lst (ds.map V.ref)) → (∀ d ∈ ds, H d = none ∧ d ≠ L ∧ Dice H' d) → H L = none → Q (.ref L) H'
/-- the loop over the rounds: each turn from some dice on; it changes nothing that stood but the dice, and goes on -/
theorem rounds_go {K : PySem.W.Frag} {a L : Addr} {ds : List Addr} {tb : TS} {D : Ends} {H : Hp} {n : Nat} {w0 : List (Option V)} (hw : w0.length = n) (hL : H L = some (.lst (ds.map V.ref))) (hds : ∀ d ∈ ds, d ≠ L ∧ Dice H d) (hd : ∀ σ' H', D.nx σ' H')
    (hbody : ∀ (w : List (Option V)) (H' : Hp) (d : Addr) (N : L2.St → Hp → Prop), w.length = n → Dice H' d → (∀ (w2 : List (Option V)) (H2 : Hp), w2.length = n → But d H' H2 → N (some (.ref a) :: w2) H2) →
      tb { D with nx := N, ct := N, bk := D.nx } ((some (.ref a) :: w).set 1 (some (.ref d))) H') :
    ForGoal (Itl K L) (gName 1) tb D (some (.ref a) :: w0) H := by
  refine for_go (walk_list (K := K) (a := L) (xs := ds.map V.ref)) (fun i σ H' => (∃ w : List (Option V), w.length = n ∧ σ = some (.ref a) :: w) ∧ H' L = some (.lst (ds.map V.ref)) ∧ ∀ d ∈ ds, Dice H' d) ⟨⟨w0, hw, rfl⟩, hL, fun d h => (hds d h).2⟩ (fun i σ H' _ h => lstOf h.2.1) ?_ (fun σ H' _ => hd σ H')
  rintro i x σ H' H'' hi ⟨⟨w, hw', rfl⟩, hL', hds'⟩ ⟨rfl, hx⟩
  rw [List.getElem?_map] at hx
  obtain ⟨d, hd1, rfl⟩ := Option.map_eq_some_iff.mp hx
  have hm := List.mem_of_getElem? hd1
  refine hbody w H'' d _ hw' (hds' d hm) fun w2 H2 hw2 b => ⟨⟨w2, hw2, rfl⟩, b.kp L _ hL' ((hds d hm).1).symm, fun e he => ?_⟩
  by_cases hed : e = d
  · subst hed
    exact b.d1
  · obtain ⟨x, k, hx⟩ := hds' e he
    exact ⟨x, k, b.kp e _ hx hed⟩
def spLaw (K : PySem.W.Frag) : Sp := fun vs H Q _ => ∃ (a : Addr) (ns : List Int), vs = [.ref a] ∧ SqL K H a (ns.map V.int) ∧ ns.length ≤ 63 ∧ ∀ H', Q (.bl true) H'
/-- some deal -/
def spDeal (K : PySem.W.Frag) : Sp := fun vs H Q _ => ∃ a : Addr, vs = [.ref a] ∧ Dice H a ∧ ∀ (p : Addr) (s t : Int) (H' : Hp), But a H H' → H p = none → H' p = some (.tup [.int s, .int t]) → isDeal (.tuple [.int s, .int t]) = true → Q (.ref p) H'
theorem atI_four {r a b c d : Int} (h0 : 0 ≤ r) (h1 : r < 4) : ∃ z, atI [V.int a, V.int b, V.int c, V.int d] r = some (.int z) ∧ (z = a ∨ z = b ∨ z = c ∨ z = d) := by
  have h : r = 0 ∨ r = 1 ∨ r = 2 ∨ r = 3 := by omega
  rcases h with rfl | rfl | rfl | rfl
  · exact ⟨a, rfl, .inl rfl⟩
  · exact ⟨b, rfl, .inr (.inl rfl)⟩
  · exact ⟨c, rfl, .inr (.inr (.inl rfl))⟩
  · exact ⟨d, rfl, .inr (.inr (.inr rfl))⟩
theorem isDeal_mk {s t : Int} (h0 : 0 ≤ s) (h1 : s ≤ 99) (h2 : 0 ≤ t) (h3 : t ≤ 99) (h4 : s % 2 ≠ 0) (h5 : s % 5 ≠ 0) : isDeal (.tuple [.int s, .int t]) = true := by
  simp [isDeal, h0, h1, h2, h3, h4, h5]
/-- some user -/
def spUser (K : PySem.W.Frag) : Sp := fun vs H Q _ => ∃ a : Addr, vs = [.ref a] ∧ Dice H a ∧ ∀ (p : Addr) (n l m : Int) (H' : Hp), But a H H' → H p = none → H' p = some (.tup [.int n, .int l, .int m]) → 0 ≤ n → n ≤ 1000000000000 → 0 ≤ l → l ≤ 5 → 0 ≤ m → m ≤ 3 → Q (.ref p) H'
theorem isUser_mk {n l m : Int} (h0 : 0 ≤ n) (h1 : n ≤ 1000000000000) (h2 : 0 ≤ l) (h3 : l ≤ 5) (h4 : 0 ≤ m) (h5 : m ≤ 3) : isUser (.tuple [.int n, .int l, .int m]) = true := by
  simp [isUser, isNum, h0, h1, h2, h3, h4, h5]
def rising : List PyData → Bool
  | .int a :: .int b :: r => decide (a < b) && rising (.int b :: r)
  | _ => true
def isRow (d : PyData) (m : Int) : Bool := match d with
  | .tuple (x :: xs) => (x :: xs).all (fun y => isNum y 0 (m - 1)) && rising (x :: xs)
  | _ => false
def spIsRow (K : PySem.W.Frag) : Sp := fun vs H Q _ => ∃ (v : V) (d : PyData) (m : Int), vs = [v, .int m] ∧ Dp K H v d ∧ okD d = true ∧ ∀ H', Same H H' → Q (.bl (isRow d m)) H'
theorem all_nums : ∀ {ds : List PyData} {lo hi : Int}, ds.all (fun y => isNum y lo hi) = true → ∃ ns : List Int, ds = ns.map PyData.int
  | [], _, _, _ => ⟨[], rfl⟩
  | d :: ds, lo, hi, h => by
    simp only [List.all_cons, Bool.and_eq_true] at h
    obtain ⟨i, rfl, _⟩ := isNum_int h.1
    obtain ⟨ns, rfl⟩ := all_nums h.2
    exact ⟨i :: ns, rfl⟩
/-- each next one greater -/
def upB : List Int → List Bool
  | a :: b :: r => decide (a < b) :: upB (b :: r)
  | _ => []
theorem upB_len : ∀ ns : List Int, (upB ns).length = ns.length - 1
  | [] => rfl
  | [_] => rfl
  | a :: b :: r => by
    simp only [upB, List.length_cons, upB_len (b :: r)]
    omega
theorem upB_get : ∀ {ns : List Int} {i : Nat} {x y : Int}, ns[i]? = some x → ns[i + 1]? = some y → (upB ns)[i]? = some (decide (x < y))
  | [], _, _, _, h, _ => by simp at h
  | [_], 0, _, _, _, h => by simp at h
  | [_], i + 1, _, _, h, _ => by simp at h
  | a :: b :: r, 0, x, y, h, h2 => by
    simp at h h2
    subst h h2
    rfl
  | a :: b :: r, i + 1, x, y, h, h2 => by
    have := upB_get (ns := b :: r) (i := i) (x := x) (y := y) (by simpa using h) (by simpa using h2)
    simpa [upB] using this
theorem rising_up : ∀ ns : List Int, rising (ns.map PyData.int) = (upB ns).all id
  | [] => rfl
  | [_] => rfl
  | a :: b :: r => by
    have h := rising_up (b :: r)
    simp only [List.map_cons] at h
    simp only [List.map_cons, rising, upB, List.all_cons, id, h]
theorem isRow_no {d : PyData} {m : Int} (h : isTupD d = false) : isRow d m = false := by
  cases d <;> first | rfl | cases h
/-- how many parts a condition has -/
def partsOf : Nat → PyData → Int
  | 0, _ => 0
  | n + 1, .tuple (.str z :: a :: r) =>
    if z = "land" then (if r.isEmpty && isRow a 6 then 1 else 0)
    else if z = "plan" then (if r.isEmpty && isRow a 4 then 1 else 0)
    else if ((decide (z = "and") || decide (z = "or")) && (decide (1 ≤ r.length) && decide (r.length ≤ 4))) || (decide (z = "not") && r.isEmpty) then
      (if ((a :: r).map (partsOf n)).contains 0 then 0 else 1 + ((a :: r).map (partsOf n)).sum)
    else 0
  | _ + 1, _ => 0
def spPartsR (K : PySem.W.Frag) (n : Nat) : Sp := fun vs H Q _ => ∃ (v : V) (d : PyData) (k : Nat), vs = [v, .int (k : Nat)] ∧ k < n ∧ Dp K H v d ∧ okD d = true ∧ ∀ H', Same H H' → Q (.int (partsOf k d)) H'
theorem inV_ints (x : Int) (ns : List Int) : inV (.int x) (ns.map V.int) = ns.contains x := by
  induction ns with
  | nil => rfl
  | cons n r ih =>
    simp only [inV, List.map_cons, List.any_cons, eqV, List.contains_cons] at ih ⊢
    rw [ih]
    have h : (n == x) = (x == n) := by
      rw [Bool.eq_iff_iff]
      constructor <;> (intro h; simp at h ⊢; exact h.symm)
    rw [h]
theorem flat_ints (ns : List Int) : (ns.map V.int).all flatV = true := by
  induction ns with
  | nil => rfl
  | cons n r ih => simp only [List.map_cons, List.all_cons, flatV, ih, Bool.and_self]
theorem partsOf_land {n : Nat} {a : PyData} {r : List PyData} : partsOf (n + 1) (.tuple (.str "land" :: a :: r)) = if r.isEmpty && isRow a 6 then 1 else 0 := by
  simp only [partsOf, if_true]
theorem partsOf_plan {n : Nat} {a : PyData} {r : List PyData} : partsOf (n + 1) (.tuple (.str "plan" :: a :: r)) = if r.isEmpty && isRow a 4 then 1 else 0 := by
  simp only [partsOf, show ¬ ("plan" : Str) = "land" by decide +kernel, if_false, if_true]
theorem partsOf_more {n : Nat} {z : Str} {a : PyData} {r : List PyData} (h1 : ¬ z = "land") (h2 : ¬ z = "plan") : partsOf (n + 1) (.tuple (.str z :: a :: r)) =
    if ((decide (z = "and") || decide (z = "or")) && (decide (1 ≤ r.length) && decide (r.length ≤ 4))) || (decide (z = "not") && r.isEmpty) then
      (if ((a :: r).map (partsOf n)).contains 0 then 0 else 1 + ((a :: r).map (partsOf n)).sum) else 0 := by
  simp only [partsOf, h1, h2, if_false]
theorem partsOf_no {n : Nat} {d : PyData} (h : isTupD d = false) : partsOf n d = 0 := by
  cases n with
  | zero => rfl
  | succ n => cases d <;> first | rfl | cases h
theorem partsOf_short {n : Nat} {ds : List PyData} (h : ds.length < 2) : partsOf n (.tuple ds) = 0 := by
  cases n with
  | zero => rfl
  | succ n =>
    match ds, h with
    | [], _ => rfl
    | [x], _ => cases x <;> rfl
theorem partsOf_word {n : Nat} {x a : PyData} {r : List PyData} (h : isStrD x = false) : partsOf n (.tuple (x :: a :: r)) = 0 := by
  cases n with
  | zero => rfl
  | succ n => cases x <;> first | rfl | cases h
def isCond (d : PyData) : Bool := decide (1 ≤ partsOf 5 d) && decide (partsOf 5 d ≤ 40)
def spIsCond (K : PySem.W.Frag) : Sp := fun vs H Q _ => ∃ (v : V) (d : PyData), vs = [v] ∧ Dp K H v d ∧ okD d = true ∧ ∀ H', Same H H' → Q (.bl (isCond d)) H'
def spNeedCond (K : PySem.W.Frag) : Sp := fun vs H Q E => ∃ (v : V) (d : PyData), vs = [v] ∧ Dp K H v d ∧ okD d = true ∧ (isCond d = true → ∀ H', Same H H' → Q .non H') ∧ (isCond d = false → ∀ H', Same H H' → E (.ref (He.ga K "BadCondition")) none H')
def inRowD (l : Int) (d : PyData) : Bool := match d with
  | .tuple ds => ds.any fun y => match y with
    | .int i => decide (i = l)
    | _ => false
  | _ => false
/-- whether a condition holds of a land and a plan -/
def fitsD : Nat → PyData → Int → Int → Bool
  | n + 1, .tuple (.str z :: a :: r), l, p =>
    if z = "land" then inRowD l a
    else if z = "plan" then inRowD p a
    else if z = "not" then !fitsD n a l p
    else if z = "and" then (a :: r).all fun y => fitsD n y l p
    else (a :: r).any fun y => fitsD n y l p
  | _, _, _, _ => false
def spFitsR (K : PySem.W.Frag) (n : Nat) : Sp := fun vs H Q _ => ∃ (v : V) (d : PyData) (l p : Int) (k : Nat), vs = [v, .int l, .int p] ∧ k < n ∧ Dp K H v d ∧ okD d = true ∧ partsOf k d ≠ 0 ∧ ∀ H', Same H H' → Q (.bl (fitsD k d l p)) H'
theorem isRow_inv {d : PyData} {m : Int} (h : isRow d m = true) : ∃ n ns, d = .tuple ((n :: ns).map PyData.int) ∧ ∀ i ∈ n :: ns, 0 ≤ i ∧ i ≤ m - 1 := by
  unfold isRow at h
  split at h
  · rename_i x xs
    rw [Bool.and_eq_true] at h
    obtain ⟨ns, e⟩ := all_nums h.1
    cases ns with
    | nil => cases e
    | cons n ns =>
      refine ⟨n, ns, by rw [e], fun i hi => ?_⟩
      have h1 := List.all_eq_true.mp h.1 (.int i) (by rw [e]; exact List.mem_map.mpr ⟨i, hi, rfl⟩)
      obtain ⟨j, ej, j0, j1⟩ := isNum_int h1
      cases ej
      exact ⟨j0, j1⟩
  · cases h
theorem inRowD_ints (l : Int) (ns : List Int) : inRowD l (.tuple (ns.map PyData.int)) = ns.contains l := by
  unfold inRowD
  induction ns with
  | nil => rfl
  | cons n r ih =>
    simp only [List.map_cons, List.any_cons, List.contains_cons] at ih ⊢
    rw [ih]
    have h : decide (n = l) = (l == n) := by
      by_cases e : n = l
      · subst e
        simp
      · rw [decide_eq_false e]
        exact (beq_eq_false_iff_ne.mpr fun q => e q.symm).symm
    rw [h]
/-- what a condition looks like -/
theorem parts_inv {k : Nat} {d : PyData} (h : partsOf (k + 1) d ≠ 0) : ∃ (z : Str) (a : PyData) (r : List PyData), d = .tuple (.str z :: a :: r) ∧ ((z = "land" ∧ r = [] ∧ isRow a 6 = true) ∨ (z = "plan" ∧ r = [] ∧ isRow a 4 = true) ∨
    (¬ z = "land" ∧ ¬ z = "plan" ∧ ((z = "not" ∧ r = []) ∨ ((z = "and" ∨ z = "or") ∧ 1 ≤ r.length ∧ r.length ≤ 4)) ∧ ∀ y ∈ a :: r, partsOf k y ≠ 0)) := by
  cases ht : isTupD d with
  | false => exact absurd (partsOf_no ht) h
  | true =>
  obtain ⟨ds, rfl⟩ := is_tup ht
  match ds with
  | [] => exact absurd rfl h
  | [_] => exact absurd (partsOf_short (by simp)) h
  | x :: a :: r =>
  cases hs : isStrD x with
  | false => exact absurd (partsOf_word hs) h
  | true =>
  obtain ⟨z, rfl⟩ := is_str hs
  refine ⟨z, a, r, rfl, ?_⟩
  by_cases hl : z = "land"
  · subst hl
    rw [partsOf_land] at h
    cases hc : r.isEmpty && isRow a 6 with
    | false =>
      rw [hc] at h
      exact absurd rfl h
    | true =>
      rw [Bool.and_eq_true] at hc
      exact .inl ⟨rfl, List.isEmpty_iff.mp hc.1, hc.2⟩
  · by_cases hp : z = "plan"
    · subst hp
      rw [partsOf_plan] at h
      cases hc : r.isEmpty && isRow a 4 with
      | false =>
        rw [hc] at h
        exact absurd rfl h
      | true =>
        rw [Bool.and_eq_true] at hc
        exact .inr (.inl ⟨rfl, List.isEmpty_iff.mp hc.1, hc.2⟩)
    · rw [partsOf_more hl hp] at h
      refine .inr (.inr ⟨hl, hp, ?_⟩)
      split at h
      · rename_i hg
        split at h
        · exact absurd rfl h
        · rename_i hc
          refine ⟨?_, fun y hy e => hc ?_⟩
          · simp only [Bool.or_eq_true, Bool.and_eq_true, decide_eq_true_eq, List.isEmpty_iff] at hg
            rcases hg with ⟨h1, h2, h3⟩ | ⟨h1, h2⟩
            · exact .inr ⟨h1, h2, h3⟩
            · exact .inl ⟨h1, h2⟩
          · rw [List.contains_iff_mem]
            exact List.mem_map.mpr ⟨y, hy, e⟩
      · exact absurd rfl h
def landD : PyData → Int
  | .tuple [_, .int l, _] => l
  | _ => 0
def planD : PyData → Int
  | .tuple [_, _, .int p] => p
  | _ => 0
def spHolds (K : PySem.W.Frag) : Sp := fun vs H Q E => ∃ (v u : V) (d e : PyData), vs = [v, u] ∧ Dp K H v d ∧ Dp K H u e ∧ okD d = true ∧ (isCond d = true → isUser e = true → ∀ H', Same H H' → Q (.bl (fitsD 5 d (landD e) (planD e))) H') ∧
  (isCond d = false → ∀ H', Same H H' → E (.ref (He.ga K "BadCondition")) none H') ∧ (isCond d = true → isUser e = false → ∀ H', Same H H' → E (.ref (He.ga K "BadUser")) none H')
theorem isCond_parts {d : PyData} (h : isCond d = true) : partsOf 5 d ≠ 0 := by
  simp only [isCond, Bool.and_eq_true, decide_eq_true_eq] at h
  omega
/-- all tuples of land and plan -/
def kd (k : Int × Int) : PyData := .tuple [.int k.1, .int k.2]
def kindsTo (n : Nat) : List (Int × Int) := (List.range n).flatMap fun (l : Nat) => (List.range 4).map fun (p : Nat) => ((l : Int), (p : Int))
abbrev kindL : List (Int × Int) := kindsTo 6
def spKinds (K : PySem.W.Frag) : Sp := fun vs H Q _ => vs = [] ∧ ∀ (L : Addr) (xs : List V) (H' : Hp), Same H H' → H L = none → H' L = some (.lst xs) → DpAll K H' xs (kindL.map kd) → Q (.ref L) H'
theorem kindsTo_succ (n : Nat) : kindsTo (n + 1) = kindsTo n ++ (List.range 4).map fun (p : Nat) => ((n : Int), (p : Int)) := by
  unfold kindsTo
  rw [List.range_succ (n := n), List.flatMap_append]
  simp
theorem kindsTo_len (n : Nat) : (kindsTo n).length = 4 * n := by
  induction n with
  | zero => rfl
  | succ n ih =>
    rw [kindsTo_succ, List.length_append, ih]
    simp
    omega
theorem kd_imm (k : Int × Int) : imm (kd k) = true := by
  simp [kd, imm, immAll]
theorem immAll_kd (l : List (Int × Int)) : immAll (l.map kd) = true := immAll_mem fun d hd => by
  obtain ⟨k, _, rfl⟩ := List.mem_map.mp hd
  exact kd_imm k
theorem dp_kd {K : PySem.W.Frag} {H : Hp} {p : Addr} {l m : Int} (h : H p = some (.tup [.int l, .int m])) : Dp K H (.ref p) (kd (l, m)) := .tup (tupOf h) (.cons (.int l) (.cons (.int m) .nil))
theorem w_cat {H : Hp} {Q : VK} {a b : Addr} {xs ys : List V} (ha : H a = some (.lst xs)) (hb : H b = some (.lst ys)) (z : xs.length + ys.length ≤ 100000) (h : ∀ p, H p = none → Q (.ref p) (upd H p (.lst (xs ++ ys)))) : rCat (.ref a) (.ref b) H Q := ⟨a, b, xs, ys, rfl, rfl, ha, hb, sz z, h⟩
def spKindsOf (K : PySem.W.Frag) : Sp := fun vs H Q E => ∃ (v : V) (d : PyData), vs = [v] ∧ Dp K H v d ∧ okD d = true ∧ (isCond d = true → ∀ (L : Addr) (xs : List V) (H' : Hp), Same H H' → H L = none → H' L = some (.lst xs) → DpAll K H' xs ((kindL.filter fun k => fitsD 5 d k.1 k.2).map kd) → Q (.ref L) H') ∧
  (isCond d = false → ∀ H', Same H H' → E (.ref (He.ga K "BadCondition")) none H')
theorem getElem?_kd {K : PySem.W.Frag} {H : Hp} {xs : List V} {l : List (Int × Int)} {i : Nat} {x : V} (h : DpAll K H xs (l.map kd)) (hx : xs[i]? = some x) : ∃ k a, l[i]? = some k ∧ x = .ref a ∧ SqT K H a [.int k.1, .int k.2] := by
  obtain ⟨d, hd, dd⟩ := dpAll_getV h hx
  rw [List.getElem?_map] at hd
  obtain ⟨k, hk, rfl⟩ := Option.map_eq_some_iff.mp hd
  obtain ⟨a, ys, rfl, hs, hys⟩ := dp_tuple dd
  cases hys with
  | cons h1 h2 =>
    cases h1
    cases h2 with
    | cons h3 h4 =>
      cases h3
      cases h4
      exact ⟨k, a, hk, rfl, hs⟩
def spLawRow (K : PySem.W.Frag) : Sp := fun vs H Q _ => ∃ (a : Addr) (m : Int), vs = [.ref a, .int m] ∧ Dice H a ∧ 1 ≤ m ∧ m ≤ 100 ∧
  ∀ (p : Addr) (ns : List Int) (H' : Hp), But a H H' → H p = none → H' p = some (.tup (ns.map V.int)) → ns.length ≤ 100 → isRow (.tuple (ns.map PyData.int)) m = true → Q (.ref p) H'
theorem upB_pair : ∀ {ns : List Int}, ns.Pairwise (· < ·) → (upB ns).all id = true
  | [], _ => rfl
  | [_], _ => rfl
  | a :: b :: r, h => by
    have h1 := List.pairwise_cons.mp h
    have h2 := h1.1 b (by simp)
    simp only [upB, List.all_cons, id, upB_pair h1.2, decide_eq_true h2, Bool.and_self]
theorem isRow_mk {ns : List Int} {m : Int} (h0 : ns ≠ []) (h1 : ns.Pairwise (· < ·)) (h2 : ∀ i ∈ ns, 0 ≤ i ∧ i ≤ m - 1) : isRow (.tuple (ns.map PyData.int)) m = true := by
  cases ns with
  | nil => exact absurd rfl h0
  | cons n r =>
    have e1 : (((n :: r).map PyData.int).all fun y => isNum y 0 (m - 1)) = true := by
      rw [List.all_map, List.all_eq_true]
      intro i hi
      obtain ⟨a, b⟩ := h2 i hi
      simp [isNum, a, b]
    have e2 : rising ((n :: r).map PyData.int) = true := by
      rw [rising_up, upB_pair h1]
    show ((((n :: r).map PyData.int).all fun y => isNum y 0 (m - 1)) && rising ((n :: r).map PyData.int)) = true
    rw [e1, e2]
    rfl
theorem dpAll_some_ints {K : PySem.W.Frag} {H : Hp} {vs : List V} {ns : List Int} (h : DpAll K H vs (ns.map PyData.int)) : vs = ns.map V.int := dpAll_intsV h
theorem eqv_nil (ds : List PyData) : PyData.eqv (.list ds) (.list []) = ds.isEmpty := by
  cases ds <;> rfl
def bnd : Nat → Int
  | 0 => 0
  | 1 => 1
  | 2 => 4
  | 3 => 13
  | _ => 27
/-- a drawn condition -/
structure CondG (k : Nat) (d : PyData) : Prop where
  im : imm d = true
  cl : d.canLay0 = true
  dp : d.depth ≤ 10 * k
  nr : narrow d = true
  p0 : 1 ≤ partsOf k d
  p1 : partsOf k d ≤ bnd k
def spLCondR (K : PySem.W.Frag) (n : Nat) : Sp := fun vs H Q _ => ∃ (a : Addr) (k : Nat), vs = [.ref a, .int (k : Nat)] ∧ 1 ≤ k ∧ k < n ∧ n ≤ 5 ∧ Dice H a ∧ ∀ v d H', But a H H' → Dp K H' v d → CondG k d → Q v H'
theorem CondG.ok {k : Nat} {d : PyData} (g : CondG k d) (hk : k ≤ 5) : okD d = true := by
  have h : decide (d.depth ≤ 64) = true := decide_eq_true (by have := g.dp; omega)
  simp only [okD, SeqAt.shaped, g.cl, h, g.nr, Bool.and_self]
theorem CondG.ne {k : Nat} {d : PyData} (g : CondG k d) : partsOf k d ≠ 0 := by
  have := g.p0
  omega
theorem imm_ints (ns : List Int) : immAll (ns.map PyData.int) = true := immAll_mem fun d hd => by
  obtain ⟨i, _, rfl⟩ := List.mem_map.mp hd
  rfl
theorem narrow_ints : ∀ ns : List Int, narrowAll (ns.map PyData.int) = true
  | [] => rfl
  | n :: ns => by simp only [List.map_cons, narrowAll, narrow, narrow_ints ns, Bool.and_self]
theorem strOk_land : PyData.canLay0 (.str "land") = true := by kernel_rfl
theorem strOk_plan : PyData.canLay0 (.str "plan") = true := by kernel_rfl
theorem strOk_not : PyData.canLay0 (.str "not") = true := by kernel_rfl
theorem strOk_and : PyData.canLay0 (.str "and") = true := by kernel_rfl
theorem strOk_or : PyData.canLay0 (.str "or") = true := by kernel_rfl
theorem condG_leaf {k : Nat} {z : Str} {m : Int} {ns : List Int} (k0 : 1 ≤ k) (hz : (z = "land" ∧ m = 6) ∨ (z = "plan" ∧ m = 4)) (hl : ns.length ≤ 100) (h : isRow (.tuple (ns.map PyData.int)) m = true) : CondG k (.tuple [.str z, .tuple (ns.map PyData.int)]) := by
  obtain ⟨j, rfl⟩ : ∃ j, k = j + 1 := ⟨k - 1, by omega⟩
  have h1 : partsOf (j + 1) (.tuple [.str z, .tuple (ns.map PyData.int)]) = 1 := by
    rcases hz with ⟨rfl, rfl⟩ | ⟨rfl, rfl⟩
    · rw [partsOf_land, h]
      rfl
    · rw [partsOf_plan, h]
      rfl
  have hb : (1 : Int) ≤ bnd (j + 1) := by
    match j with
    | 0 => decide
    | 1 => decide
    | 2 => decide
    | j + 3 => exact (by decide : (1 : Int) ≤ 27)
  have hz2 : PyData.canLay0 (.str z) = true := by
    rcases hz with ⟨rfl, rfl⟩ | ⟨rfl, rfl⟩
    · exact strOk_land
    · exact strOk_plan
  have hd := depthAll_ints ns
  refine ⟨?_, ?_, ?_, ?_, by omega, by omega⟩
  · simp only [imm, immAll, imm_ints, Bool.and_self]
  · simp only [PyData.canLay0, PyData.canLayAll0, shapedAll_ints, Bool.and_true] at hz2 ⊢
    exact hz2
  · simp only [PyData.depth, PyData.depthAll]
    omega
  · simp only [narrow, narrowAll, List.length_map, List.length_cons, List.length_nil, narrow_ints, Bool.and_true, Bool.true_and]
    simp
    omega
theorem sum_bnd {f : PyData → Int} {b : Int} : ∀ {ds : List PyData}, (∀ d ∈ ds, 1 ≤ f d ∧ f d ≤ b) → (ds.length : Int) ≤ (ds.map f).sum ∧ (ds.map f).sum ≤ ds.length * b
  | [], _ => by simp
  | d :: ds, h => by
    have h1 := h d (by simp)
    have h2 := sum_bnd (ds := ds) fun e he => h e (by simp [he])
    simp only [List.map_cons, List.sum_cons, List.length_cons]
    have e : ((ds.length + 1 : Nat) : Int) * b = (ds.length : Int) * b + b := by
      rw [Int.natCast_add, Int.add_mul]
      simp
    rw [e]
    omega
theorem depthAll_le {m : Nat} : ∀ {ds : List PyData}, (∀ d ∈ ds, d.depth ≤ m) → PyData.depthAll ds ≤ m
  | [], _ => by simp [PyData.depthAll]
  | d :: ds, h => by
    have h1 := h d (by simp)
    have h2 := depthAll_le (ds := ds) fun e he => h e (by simp [he])
    simp only [PyData.depthAll]
    omega
theorem canLayAll_mem : ∀ {ds : List PyData}, (∀ d ∈ ds, d.canLay0 = true) → PyData.canLayAll0 ds = true
  | [], _ => rfl
  | d :: ds, h => by
    have h2 := canLayAll_mem (ds := ds) fun e he => h e (by simp [he])
    simp only [PyData.canLayAll0, h d (by simp), h2, Bool.and_self]
theorem narrowAll_of : ∀ {ds : List PyData}, (∀ d ∈ ds, narrow d = true) → narrowAll ds = true
  | [], _ => rfl
  | d :: ds, h => by
    have h2 := narrowAll_of (ds := ds) fun e he => h e (by simp [he])
    simp only [narrowAll, h d (by simp), h2, Bool.and_self]
theorem condG_node {k : Nat} {z : Str} {a : PyData} {r : List PyData} (hk : k ≤ 3) (hz : PyData.canLay0 (.str z) = true) (h1 : ¬ z = "land") (h2 : ¬ z = "plan")
    (hg : ((z = "and" ∨ z = "or") ∧ 1 ≤ r.length ∧ r.length ≤ 2 ∧ (k = 3 → r.length ≤ 1)) ∨ (z = "not" ∧ r = [])) (h : ∀ y ∈ a :: r, CondG k y) : CondG (k + 1) (.tuple (.str z :: a :: r)) := by
  have hl : r.length ≤ 2 ∧ (k = 3 → r.length ≤ 1) := by
    rcases hg with ⟨_, _, a, b⟩ | ⟨_, rfl⟩
    · exact ⟨a, b⟩
    · exact ⟨by simp, fun _ => by simp⟩
  have hgg : (((decide (z = "and") || decide (z = "or")) && (decide (1 ≤ r.length) && decide (r.length ≤ 4))) || (decide (z = "not") && r.isEmpty)) = true := by
    rcases hg with ⟨a | a, b, c, _⟩ | ⟨a, b⟩
    · simp [a, b, show r.length ≤ 4 by omega]
    · simp [a, b, show r.length ≤ 4 by omega]
    · simp [a, b]
  have hp : partsOf (k + 1) (.tuple (.str z :: a :: r)) = 1 + ((a :: r).map (partsOf k)).sum := by
    rw [partsOf_more h1 h2, hgg]
    have hc : ((a :: r).map (partsOf k)).contains 0 = false := by
      cases e : ((a :: r).map (partsOf k)).contains 0 with
      | false => rfl
      | true =>
        rw [List.contains_iff_mem] at e
        obtain ⟨y, hy, e⟩ := List.mem_map.mp e
        exact absurd e (h y hy).ne
    rw [hc]
    rfl
  have hs := sum_bnd (f := partsOf k) (b := bnd k) (ds := a :: r) fun d hd => ⟨(h d hd).p0, (h d hd).p1⟩
  have hdep := depthAll_le (m := 10 * k) (ds := a :: r) fun d hd => (h d hd).dp
  have hcl := canLayAll_mem (ds := a :: r) fun d hd => (h d hd).cl
  have hnr := narrowAll_of (ds := a :: r) fun d hd => (h d hd).nr
  have him := immAll_mem (l := a :: r) fun d hd => (h d hd).im
  refine ⟨?_, ?_, ?_, ?_, ?_, ?_⟩
  · simp only [imm, immAll, Bool.true_and] at him ⊢
    exact him
  · simp only [PyData.canLay0] at hz
    simp only [PyData.canLay0, PyData.canLayAll0, hz, Bool.true_and] at hcl ⊢
    exact hcl
  · simp only [PyData.depth, PyData.depthAll] at hdep ⊢
    omega
  · simp only [narrow, narrowAll, Bool.true_and, List.length_cons] at hnr ⊢
    rw [hnr, Bool.and_true, decide_eq_true_eq]
    omega
  · rw [hp]
    have := hs.1
    simp only [List.length_cons] at this
    omega
  · rw [hp]
    have h3 := hs.2
    simp only [List.length_cons] at h3
    have hk4 : k = 0 ∨ k = 1 ∨ k = 2 ∨ k = 3 := by omega
    rcases hk4 with rfl | rfl | rfl | rfl
    · have := (h a (by simp)).p1
      have := (h a (by simp)).p0
      simp only [bnd] at *
      omega
    · simp only [bnd] at *
      omega
    · simp only [bnd] at *
      omega
    · have := hl.2 rfl
      simp only [bnd] at *
      omega
theorem w_catT {K : PySem.W.Frag} {H : Hp} {Q : VK} {a b : Addr} {x y : V} {xs ys : List V} (ha : SqT K H a (x :: xs)) (hb : SqT K H b (y :: ys)) (z : (x :: xs).length + (y :: ys).length ≤ 100000) (h : ∀ p, H p = none → Q (.ref p) (upd H p (.tup (x :: xs ++ y :: ys)))) : rCatT K (.ref a) (.ref b) H Q := ⟨a, b, _, _, rfl, rfl, ha, hb, by simp, sz z, fun e => (by cases e), fun _ => h⟩
theorem atI_twoS {r : Int} {a b : Str} (h0 : 0 ≤ r) (h1 : r < 2) : ∃ z, atI [V.str a, V.str b] r = some (.str z) ∧ (z = a ∨ z = b) := by
  have h : r = 0 ∨ r = 1 := by omega
  rcases h with rfl | rfl
  · exact ⟨a, rfl, .inl rfl⟩
  · exact ⟨b, rfl, .inr rfl⟩
theorem fitsD_land {n : Nat} {a : PyData} {r : List PyData} {l p : Int} : fitsD (n + 1) (.tuple (.str "land" :: a :: r)) l p = inRowD l a := by
  simp only [fitsD, if_true]
theorem fitsD_plan {n : Nat} {a : PyData} {r : List PyData} {l p : Int} : fitsD (n + 1) (.tuple (.str "plan" :: a :: r)) l p = inRowD p a := by
  simp only [fitsD, show ¬ ("plan" : Str) = "land" by decide +kernel, if_false, if_true]
theorem fitsD_not {n : Nat} {a : PyData} {r : List PyData} {l p : Int} : fitsD (n + 1) (.tuple (.str "not" :: a :: r)) l p = !fitsD n a l p := by
  simp only [fitsD, show ¬ ("not" : Str) = "land" by decide +kernel, show ¬ ("not" : Str) = "plan" by decide +kernel, if_false, if_true]
theorem fitsD_and {n : Nat} {a : PyData} {r : List PyData} {l p : Int} : fitsD (n + 1) (.tuple (.str "and" :: a :: r)) l p = (a :: r).all fun y => fitsD n y l p := by
  simp only [fitsD, show ¬ ("and" : Str) = "land" by decide +kernel, show ¬ ("and" : Str) = "plan" by decide +kernel, show ¬ ("and" : Str) = "not" by decide +kernel, if_false, if_true]
theorem fitsD_or {n : Nat} {a : PyData} {r : List PyData} {l p : Int} : fitsD (n + 1) (.tuple (.str "or" :: a :: r)) l p = (a :: r).any fun y => fitsD n y l p := by
  simp only [fitsD, show ¬ ("or" : Str) = "land" by decide +kernel, show ¬ ("or" : Str) = "plan" by decide +kernel, show ¬ ("or" : Str) = "not" by decide +kernel, show ¬ ("or" : Str) = "and" by decide +kernel, if_false]
theorem w_neB {H : Hp} {Q : VK} {a b : Bool} (h : Q (.bl (a != b)) H) : rNe (.bl a) (.bl b) H Q := ⟨rfl, by
  have e : (!decide (V.bl a = V.bl b)) = (a != b) := by
    cases a <;> cases b <;> rfl
  rw [e]
  exact h⟩
theorem w_eqB {H : Hp} {Q : VK} {a b : Bool} (h : Q (.bl (a == b)) H) : rEq (.bl a) (.bl b) H Q := ⟨rfl, by
  have e : decide (V.bl a = V.bl b) = (a == b) := by
    cases a <;> cases b <;> rfl
  rw [e]
  exact h⟩
theorem parts_up : ∀ (k : Nat) (d : PyData), partsOf k d ≠ 0 → partsOf (k + 1) d = partsOf k d ∧ ∀ l p, fitsD (k + 1) d l p = fitsD k d l p
  | 0, d, h => absurd rfl h
  | k + 1, d, h => by
    obtain ⟨z, a, r, rfl, hz⟩ := parts_inv h
    rcases hz with ⟨rfl, _⟩ | ⟨rfl, _⟩ | ⟨n1, n2, hg, hys⟩
    · exact ⟨by rw [partsOf_land, partsOf_land], fun l p => by rw [fitsD_land, fitsD_land]⟩
    · exact ⟨by rw [partsOf_plan, partsOf_plan], fun l p => by rw [fitsD_plan, fitsD_plan]⟩
    · have ih := fun y hy => parts_up k y (hys y hy)
      have em : (a :: r).map (partsOf (k + 1)) = (a :: r).map (partsOf k) := List.map_congr_left fun y hy => (ih y hy).1
      refine ⟨by rw [partsOf_more n1 n2, partsOf_more n1 n2, em], fun l p => ?_⟩
      rcases hg with ⟨rfl, rfl⟩ | ⟨rfl | rfl, _⟩
      · rw [fitsD_not, fitsD_not, (ih a (by simp)).2]
      · rw [fitsD_and, fitsD_and, Bool.eq_iff_iff, List.all_eq_true, List.all_eq_true]
        exact ⟨fun z y hy => by rw [← (ih y hy).2]; exact z y hy, fun z y hy => by rw [(ih y hy).2]; exact z y hy⟩
      · rw [fitsD_or, fitsD_or, Bool.eq_iff_iff, List.any_eq_true, List.any_eq_true]
        exact ⟨fun ⟨y, hy, z⟩ => ⟨y, hy, by rw [← (ih y hy).2]; exact z⟩, fun ⟨y, hy, z⟩ => ⟨y, hy, by rw [(ih y hy).2]; exact z⟩⟩
theorem parts_five {k : Nat} {d : PyData} (h : partsOf k d ≠ 0) (hk : k ≤ 5) : partsOf 5 d = partsOf k d ∧ ∀ l p, fitsD 5 d l p = fitsD k d l p := by
  have key : ∀ m j, partsOf j d ≠ 0 → partsOf (j + m) d = partsOf j d ∧ ∀ l p, fitsD (j + m) d l p = fitsD j d l p := by
    intro m
    induction m with
    | zero => exact fun j _ => ⟨rfl, fun _ _ => rfl⟩
    | succ m ih =>
      intro j hj
      obtain ⟨a1, a2⟩ := ih j hj
      have u := parts_up (j + m) d (by rw [a1]; exact hj)
      exact ⟨u.1.trans a1, fun l p => (u.2 l p).trans (a2 l p)⟩
  have := key (5 - k) k h
  rw [show k + (5 - k) = 5 by omega] at this
  exact this
theorem CondG.cond {k : Nat} {d : PyData} (g : CondG k d) (hk : k ≤ 5) : isCond d = true := by
  have e := (parts_five g.ne hk).1
  have h0 := g.p0
  have h1 := g.p1
  have hb : bnd k ≤ 27 := by
    match k with
    | 0 => decide
    | 1 => decide
    | 2 => decide
    | 3 => decide
    | k + 4 => exact Int.le_refl _
  simp only [isCond, e, Bool.and_eq_true, decide_eq_true_eq]
  omega
theorem eqv_kd (a b : Int × Int) : PyData.eqv (kd a) (kd b) = decide (a = b) := by
  obtain ⟨a1, a2⟩ := a
  obtain ⟨b1, b2⟩ := b
  simp only [kd, PyData.eqv, PyData.eqvAll, Bool.and_true, Prod.mk.injEq]
  rw [Bool.eq_iff_iff]
  simp
theorem eqvAll_kd : ∀ l : List (Int × Int), PyData.eqvAll (l.map kd) (l.map kd) = true
  | [] => rfl
  | k :: l => by simp only [List.map_cons, PyData.eqvAll, eqv_kd, eqvAll_kd l, decide_true, Bool.and_self]
theorem kd_lay (k : Int × Int) : (kd k).canLay0 = true := by simp [kd, PyData.canLay0, PyData.canLayAll0]
theorem kd_dep (k : Int × Int) : (kd k).depth ≤ 3 := by
  simp only [kd, PyData.depth, PyData.depthAll]
  omega
theorem shaped_kd (k : Int × Int) : SeqAt.shaped (kd k) = true := by
  have h : decide ((kd k).depth ≤ 64) = true := decide_eq_true (by have := kd_dep k; omega)
  simp only [SeqAt.shaped, kd_lay, h, Bool.and_self]
theorem shaped_kds (l : List (Int × Int)) : SeqAt.shaped (.list (l.map kd)) = true := by
  have h1 : PyData.canLayAll0 (l.map kd) = true := canLayAll_mem fun d hd => by
    obtain ⟨k, _, rfl⟩ := List.mem_map.mp hd
    exact kd_lay k
  have h2 := depthAll_le (m := 3) (ds := l.map kd) fun d hd => by
    obtain ⟨k, _, rfl⟩ := List.mem_map.mp hd
    exact kd_dep k
  have h3 : decide (PyData.depth (.list (l.map kd)) ≤ 64) = true := decide_eq_true (by simp only [PyData.depth]; omega)
  simp only [SeqAt.shaped, PyData.canLay0, h1, h3, Bool.and_self]
theorem mem_kindL {l p : Int} (h0 : 0 ≤ l) (h1 : l ≤ 5) (h2 : 0 ≤ p) (h3 : p ≤ 3) : (l, p) ∈ kindL := by
  show (l, p) ∈ kindsTo 6
  unfold kindsTo
  rw [List.mem_flatMap]
  exact ⟨l.toNat, List.mem_range.mpr (by omega), List.mem_map.mpr ⟨p.toNat, List.mem_range.mpr (by omega), by
    rw [Int.toNat_of_nonneg h0, Int.toNat_of_nonneg h2]⟩⟩
theorem any_kd {f : Int × Int → Bool} {k : Int × Int} {l : List (Int × Int)} (hk : k ∈ l) : (((l.filter f).map kd).any fun z => PyData.eqv z (kd k)) = f k := by
  rw [List.any_map, Bool.eq_iff_iff, List.any_eq_true]
  constructor
  · rintro ⟨x, hx, e⟩
    have e2 : x = k := by
      have : PyData.eqv (kd x) (kd k) = true := e
      rw [eqv_kd] at this
      exact of_decide_eq_true this
    subst e2
    exact (List.mem_filter.mp hx).2
  · intro h
    refine ⟨k, List.mem_filter.mpr ⟨hk, h⟩, ?_⟩
    show PyData.eqv (kd k) (kd k) = true
    rw [eqv_kd]
    exact decide_eq_true rfl
theorem kinds24 : (List.range 24).map (fun (i : Nat) => (((i : Int) / 4, (i : Int) % 4) : Int × Int)) = kindL := by decide +kernel
def isRule (d : PyData) : Bool := match d with
  | .tuple [c, m] => isCond c && isNum m 0 100
  | _ => false
def spIsRule (K : PySem.W.Frag) : Sp := fun vs H Q _ => ∃ (v : V) (d : PyData), vs = [v] ∧ Dp K H v d ∧ okD d = true ∧ ∀ H', Same H H' → Q (.bl (isRule d)) H'
theorem isRule_no {d : PyData} (h : isTupD d = false) : isRule d = false := by
  cases d <;> first | rfl | cases h
theorem isRule_len {ds : List PyData} (h : ds.length ≠ 2) : isRule (.tuple ds) = false := by
  match ds, h with
  | [], _ => rfl
  | [_], _ => rfl
  | [_, _], h => exact absurd rfl h
  | _ :: _ :: _ :: _, _ => rfl
def areRules (d : PyData) : Bool := match d with
  | .tuple ds => decide (ds.length ≤ 6) && ds.all isRule
  | _ => false
def spAreRules (K : PySem.W.Frag) : Sp := fun vs H Q _ => ∃ (v : V) (d : PyData), vs = [v] ∧ Dp K H v d ∧ okD d = true ∧ ∀ H', Same H H' → Q (.bl (areRules d)) H'
theorem areRules_no {d : PyData} (h : isTupD d = false) : areRules d = false := by
  cases d <;> first | rfl | cases h
def spNeedRules (K : PySem.W.Frag) : Sp := fun vs H Q E => ∃ (v : V) (d : PyData), vs = [v] ∧ Dp K H v d ∧ okD d = true ∧ (areRules d = true → ∀ H', Same H H' → Q .non H') ∧ (areRules d = false → ∀ H', Same H H' → E (.ref (He.ga K "BadRules")) none H')
/-- the share of the first rule that holds -/
def shareL : List PyData → Int → Int → Int
  | .tuple [c, .int m] :: r, l, p => if fitsD 5 c l p = true then m else shareL r l p
  | _ :: r, l, p => shareL r l p
  | [], _, _ => 0
def spShareOf (K : PySem.W.Frag) : Sp := fun vs H Q _ => ∃ (v : V) (ds : List PyData) (l p : Int), vs = [v, .int l, .int p] ∧ Dp K H v (.tuple ds) ∧ okD (.tuple ds) = true ∧ areRules (.tuple ds) = true ∧ ∀ H', Same H H' → Q (.int (shareL ds l p)) H'
theorem isRule_inv {d : PyData} (h : isRule d = true) : ∃ (c : PyData) (m : Int), d = .tuple [c, .int m] ∧ isCond c = true ∧ 0 ≤ m ∧ m ≤ 100 := by
  unfold isRule at h
  split at h
  · rename_i c m
    rw [Bool.and_eq_true] at h
    obtain ⟨i, rfl, i0, i1⟩ := isNum_int h.2
    exact ⟨c, i, rfl, h.1, i0, i1⟩
  · cases h
theorem areRules_mem {ds : List PyData} (h : areRules (.tuple ds) = true) {d : PyData} (hd : d ∈ ds) : isRule d = true := by
  simp only [areRules, Bool.and_eq_true] at h
  exact List.all_eq_true.mp h.2 d hd
theorem areRules_len {ds : List PyData} (h : areRules (.tuple ds) = true) : ds.length ≤ 6 := by
  simp only [areRules, Bool.and_eq_true, decide_eq_true_eq] at h
  exact h.1
theorem areRules_inv {d : PyData} (h : areRules d = true) : ∃ ds, d = .tuple ds := by
  cases d <;> first | exact ⟨_, rfl⟩ | cases h
theorem shareL_drop {l p : Int} : ∀ {ds : List PyData} {i : Nat} {c : PyData} {m : Int}, ds[i]? = some (.tuple [c, .int m]) → shareL (ds.drop i) l p = if fitsD 5 c l p = true then m else shareL (ds.drop (i + 1)) l p
  | [], i, c, m, h => by simp at h
  | d :: ds, 0, c, m, h => by
    simp at h
    subst h
    rfl
  | d :: ds, i + 1, c, m, h => by
    have := shareL_drop (l := l) (p := p) (ds := ds) (i := i) (c := c) (m := m) (by simpa using h)
    simpa using this
theorem dp_pair {K : PySem.W.Frag} {H : Hp} {v : V} {c : PyData} {m : Int} (h : Dp K H v (.tuple [c, .int m])) : ∃ a u, v = .ref a ∧ SqT K H a [u, .int m] ∧ Dp K H u c := by
  obtain ⟨a, xs, rfl, hs, hx⟩ := dp_tuple h
  cases hx with
  | cons h1 h2 =>
    cases h2 with
    | cons h3 h4 =>
      cases h3
      cases h4
      exact ⟨a, _, rfl, hs, h1⟩
def shareD (d : PyData) (l p : Int) : Int := match d with
  | .tuple ds => shareL ds l p
  | _ => 0
def spShare (K : PySem.W.Frag) : Sp := fun vs H Q E => ∃ (v u : V) (d e : PyData), vs = [v, u] ∧ Dp K H v d ∧ Dp K H u e ∧ okD d = true ∧ (areRules d = true → isUser e = true → ∀ H', Same H H' → Q (.int (shareD d (landD e) (planD e))) H') ∧
  (areRules d = false → ∀ H', Same H H' → E (.ref (He.ga K "BadRules")) none H') ∧ (areRules d = true → isUser e = false → ∀ H', Same H H' → E (.ref (He.ga K "BadUser")) none H')
def spLets (K : PySem.W.Frag) : Sp := fun vs H Q _ => ∃ (v w' u : V) (ds : List PyData) (s t n l p : Int), vs = [v, w', u] ∧ Dp K H v (.tuple ds) ∧ okD (.tuple ds) = true ∧ areRules (.tuple ds) = true ∧ Dp K H w' (.tuple [.int s, .int t]) ∧ 0 ≤ s ∧ s ≤ 99 ∧ Dp K H u (.tuple [.int n, .int l, .int p]) ∧
  ∀ H', Same H H' → Q (.bl (decide ((n * s + t) % 100 < shareL ds l p))) H'
def letsD (d dl e : PyData) : Bool := decide (placeD e dl < shareD d (landD e) (planD e))
def spIsLet (K : PySem.W.Frag) : Sp := fun vs H Q E => ∃ (v w' u : V) (d dl e : PyData), vs = [v, w', u] ∧ Dp K H v d ∧ Dp K H w' dl ∧ Dp K H u e ∧ okD d = true ∧ (areRules d = true → isDeal dl = true → isUser e = true → ∀ H', Same H H' → Q (.bl (letsD d dl e)) H') ∧
  (areRules d = false → ∀ H', Same H H' → E (.ref (He.ga K "BadRules")) none H') ∧ (areRules d = true → isDeal dl = false → ∀ H', Same H H' → E (.ref (He.ga K "BadDeal")) none H') ∧ (areRules d = true → isDeal dl = true → isUser e = false → ∀ H', Same H H' → E (.ref (He.ga K "BadUser")) none H')
/-- a drawn rule -/
def RuleG (d : PyData) : Prop := ∃ (c : PyData) (m : Int) (k : Nat), d = .tuple [c, .int m] ∧ k ≤ 4 ∧ CondG k c ∧ 0 ≤ m ∧ m ≤ 100
structure RulesG (ds : List PyData) : Prop where
  len : ds.length ≤ 4
  all : ∀ d ∈ ds, RuleG d
def spLRules (K : PySem.W.Frag) : Sp := fun vs H Q _ => ∃ (a : Addr) (k : Nat), vs = [.ref a, .int (k : Nat)] ∧ 1 ≤ k ∧ k ≤ 4 ∧ Dice H a ∧ ∀ v ds H', But a H H' → Dp K H' v (.tuple ds) → RulesG ds → Q v H'
theorem RuleG.imm {d : PyData} (g : RuleG d) : imm d = true := by
  obtain ⟨c, m, k, rfl, hk, hc, _⟩ := g
  simp only [RG.imm, immAll, hc.im, Bool.and_self]
theorem RuleG.rule {d : PyData} (g : RuleG d) : isRule d = true := by
  obtain ⟨c, m, k, rfl, hk, hc, m0, m1⟩ := g
  simp only [isRule, hc.cond (by omega), isNum, decide_eq_true m0, decide_eq_true m1, Bool.and_self]
theorem RuleG.lay {d : PyData} (g : RuleG d) : d.canLay0 = true := by
  obtain ⟨c, m, k, rfl, hk, hc, _⟩ := g
  simp only [PyData.canLay0, PyData.canLayAll0, hc.cl, Bool.and_self]
theorem RuleG.dep {d : PyData} (g : RuleG d) : d.depth ≤ 45 := by
  obtain ⟨c, m, k, rfl, hk, hc, _⟩ := g
  have := hc.dp
  simp only [PyData.depth, PyData.depthAll]
  omega
theorem RuleG.nar {d : PyData} (g : RuleG d) : narrow d = true := by
  obtain ⟨c, m, k, rfl, hk, hc, _⟩ := g
  simp only [narrow, narrowAll, hc.nr, List.length_cons, List.length_nil, Bool.and_true]
  rfl
theorem RulesG.imm {ds : List PyData} (g : RulesG ds) : immAll ds = true := immAll_mem fun d hd => (g.all d hd).imm
theorem RulesG.ok {ds : List PyData} (g : RulesG ds) : okD (.tuple ds) = true := by
  have h1 := canLayAll_mem (ds := ds) fun d hd => (g.all d hd).lay
  have h2 := depthAll_le (m := 45) (ds := ds) fun d hd => (g.all d hd).dep
  have h3 := narrowAll_of (ds := ds) fun d hd => (g.all d hd).nar
  have h4 : decide (PyData.depth (.tuple ds) ≤ 64) = true := decide_eq_true (by simp only [PyData.depth]; omega)
  have h5 : decide (ds.length ≤ 1000) = true := decide_eq_true (by have := g.len; omega)
  simp only [okD, SeqAt.shaped, PyData.canLay0, h1, h4, narrow, h3, h5, Bool.and_self]
theorem RulesG.rules {ds : List PyData} (g : RulesG ds) : areRules (.tuple ds) = true := by
  have h5 : decide (ds.length ≤ 6) = true := decide_eq_true (by have := g.len; omega)
  have h6 : ds.all isRule = true := List.all_eq_true.mpr fun d hd => (g.all d hd).rule
  simp only [areRules, h5, h6, Bool.and_self]
theorem shareL_bounds {l p : Int} : ∀ {ds : List PyData}, (∀ d ∈ ds, RuleG d) → 0 ≤ shareL ds l p ∧ shareL ds l p ≤ 100
  | [], _ => by simp [shareL]
  | d :: ds, h => by
    obtain ⟨c, m, k, rfl, _, _, m0, m1⟩ := h d (by simp)
    have ih := shareL_bounds (l := l) (p := p) (ds := ds) fun e he => h e (by simp [he])
    simp only [shareL]
    split
    · exact ⟨m0, m1⟩
    · exact ih
theorem atI_sixI {r a b c d e f : Int} (h0 : 0 ≤ r) (h1 : r < 6) : ∃ z, atI [V.int a, V.int b, V.int c, V.int d, V.int e, V.int f] r = some (.int z) ∧ (z = a ∨ z = b ∨ z = c ∨ z = d ∨ z = e ∨ z = f) := by
  have h : r = 0 ∨ r = 1 ∨ r = 2 ∨ r = 3 ∨ r = 4 ∨ r = 5 := by omega
  rcases h with rfl | rfl | rfl | rfl | rfl | rfl
  · exact ⟨a, rfl, by simp⟩
  · exact ⟨b, rfl, by simp⟩
  · exact ⟨c, rfl, by simp⟩
  · exact ⟨d, rfl, by simp⟩
  · exact ⟨e, rfl, by simp⟩
  · exact ⟨f, rfl, by simp⟩
theorem tyL {K : PySem.W.Frag} {H : Hp} {p : Addr} {xs : List V} (h : H p = some (.lst xs)) : tyV K "list" (.ref p) H := .inl ⟨rfl, _, lstOf h⟩
/-- the same conditions, each share as great or greater -/
inductive Wider : List PyData → List PyData → Prop
  | nil : Wider [] []
  | cons {c : PyData} {m m' : Int} {ds es : List PyData} (h : m ≤ m') (t : Wider ds es) : Wider (.tuple [c, .int m] :: ds) (.tuple [c, .int m'] :: es)
theorem Wider.share {l p : Int} : ∀ {ds es : List PyData}, Wider ds es → shareL ds l p ≤ shareL es l p
  | _, _, .nil => Int.le_refl _
  | _, _, .cons (c := c) h t => by
    simp only [shareL]
    split
    · exact h
    · exact t.share
theorem Wider.snoc {c : PyData} {m m' : Int} : ∀ {ds es : List PyData}, Wider ds es → m ≤ m' → Wider (ds ++ [.tuple [c, .int m]]) (es ++ [.tuple [c, .int m']])
  | _, _, .nil, h => .cons h .nil
  | _, _, .cons h' t, h => .cons h' (t.snoc h)
def spWider (K : PySem.W.Frag) : Sp := fun vs H Q _ => ∃ (v : V) (a : Addr) (ds : List PyData), vs = [v, .ref a] ∧ Dice H a ∧ Dp K H v (.tuple ds) ∧ RulesG ds ∧ ∀ v' es H', But a H H' → Dp K H' v' (.tuple es) → RulesG es → Wider ds es → Q v' H'
/-- a user as data -/
def ud (n : Int) (k : Int × Int) : PyData := .tuple [.int n, .int k.1, .int k.2]
def usersL (lo : Int) (n : Nat) : List PyData := (List.range n).flatMap fun (i : Nat) => kindL.map (ud (lo + (i : Int)))
def usersN (lo hi : Int) : Nat := ((if hi + 1 < lo + 100 then hi + 1 else lo + 100) - lo).toNat
def spUsersFrom (K : PySem.W.Frag) : Sp := fun vs H Q _ => ∃ lo hi : Int, vs = [.int lo, .int hi] ∧ 0 ≤ lo ∧ lo ≤ 1000000000000 ∧ -1 ≤ hi ∧ hi ≤ 1000000000000 ∧ ∀ (L : Addr) (xs : List V) (H' : Hp), Same H H' → H L = none → H' L = some (.lst xs) → DpAll K H' xs (usersL lo (usersN lo hi)) → Q (.ref L) H'
theorem usersL_succ (lo : Int) (n : Nat) : usersL lo (n + 1) = usersL lo n ++ kindL.map (ud (lo + (n : Int))) := by
  unfold usersL
  rw [List.range_succ (n := n), List.flatMap_append]
  simp
theorem usersL_len (lo : Int) (n : Nat) : (usersL lo n).length = 24 * n := by
  induction n with
  | zero => rfl
  | succ n ih =>
    rw [usersL_succ, List.length_append, ih, List.length_map]
    have : kindL.length = 24 := by simp [kindsTo_len]
    omega
theorem ud_imm (n : Int) (k : Int × Int) : imm (ud n k) = true := by
  simp [ud, imm, immAll]
theorem immAll_ud (n : Int) (l : List (Int × Int)) : immAll (l.map (ud n)) = true := immAll_mem fun d hd => by
  obtain ⟨k, _, rfl⟩ := List.mem_map.mp hd
  exact ud_imm n k
theorem usersL_mem {lo : Int} {n : Nat} {d : PyData} (h : d ∈ usersL lo n) : ∃ (i : Nat) (k : Int × Int), i < n ∧ k ∈ kindL ∧ d = ud (lo + (i : Int)) k := by
  unfold usersL at h
  obtain ⟨i, hi, hd⟩ := List.mem_flatMap.mp h
  obtain ⟨k, hk, rfl⟩ := List.mem_map.mp hd
  exact ⟨i, k, List.mem_range.mp hi, hk, rfl⟩
theorem usersL_has {lo : Int} {n i : Nat} {k : Int × Int} (hi : i < n) (hk : k ∈ kindL) : ud (lo + (i : Int)) k ∈ usersL lo n := by
  unfold usersL
  exact List.mem_flatMap.mpr ⟨i, List.mem_range.mpr hi, List.mem_map.mpr ⟨k, hk, rfl⟩⟩
theorem immAll_users (lo : Int) (n : Nat) : immAll (usersL lo n) = true := immAll_mem fun d hd => by
  obtain ⟨i, k, _, _, rfl⟩ := usersL_mem hd
  exact ud_imm _ k
theorem kindL_b : ∀ k ∈ kindL, 0 ≤ k.1 ∧ k.1 ≤ 5 ∧ 0 ≤ k.2 ∧ k.2 ≤ 3 := by decide
def losesP (ds es : List PyData) (s t : Int) (u : PyData) : Bool := letsD (.tuple ds) (.tuple [.int s, .int t]) u && !letsD (.tuple es) (.tuple [.int s, .int t]) u
def loserL (ds es : List PyData) (s t : Int) : Option PyData := (usersL 0 100).find? (losesP ds es s t)
def optD (o : Option PyData) : PyData := o.getD .none
def spLoserOf (K : PySem.W.Frag) : Sp := fun vs H Q _ => ∃ (v v' w' : V) (ds es : List PyData) (s t : Int), vs = [v, v', w'] ∧ Dp K H v (.tuple ds) ∧ Dp K H v' (.tuple es) ∧ okD (.tuple ds) = true ∧ okD (.tuple es) = true ∧ areRules (.tuple ds) = true ∧ areRules (.tuple es) = true ∧ Dp K H w' (.tuple [.int s, .int t]) ∧ 0 ≤ s ∧ s ≤ 99 ∧ ∀ u H', Same H H' → Dp K H' u (optD (loserL ds es s t)) → Q u H'
theorem find?_at {α : Type} {p : α → Bool} {ds : List α} {i : Nat} {e : α} (h : ds[i]? = some e) (hp : p e = true) (hn : ∀ y ∈ ds.take i, p y = false) : ds.find? p = some e := by
  obtain ⟨hi, ei⟩ := List.getElem?_eq_some_iff.mp h
  rw [List.find?_eq_some_iff_getElem]
  refine ⟨hp, i, hi, ei, fun j hj => ?_⟩
  have := hn ds[j] (by
    rw [List.mem_take_iff_getElem]
    exact ⟨j, by omega, rfl⟩)
  simp [this]
theorem find?_no {α : Type} {p : α → Bool} {ds : List α} (hn : ∀ y ∈ ds, p y = false) : ds.find? p = none := by
  rw [List.find?_eq_none]
  intro y hy
  simp [hn y hy]
def spLoser (K : PySem.W.Frag) : Sp := fun vs H Q E => ∃ (v v' w' : V) (d d' dl : PyData), vs = [v, v', w'] ∧ Dp K H v d ∧ Dp K H v' d' ∧ Dp K H w' dl ∧ okD d = true ∧ okD d' = true ∧
  (∀ ds es s t, d = .tuple ds → d' = .tuple es → dl = .tuple [.int s, .int t] → areRules d = true → areRules d' = true → isDeal dl = true → ∀ u H', Same H H' → Dp K H' u (optD (loserL ds es s t)) → Q u H') ∧
  (areRules d = false → ∀ H', Same H H' → E (.ref (He.ga K "BadRules")) none H') ∧ (areRules d = true → areRules d' = false → ∀ H', Same H H' → E (.ref (He.ga K "BadRules")) none H') ∧ (areRules d = true → areRules d' = true → isDeal dl = false → ∀ H', Same H H' → E (.ref (He.ga K "BadDeal")) none H')
def spLUsers (K : PySem.W.Frag) : Sp := fun vs H Q _ => ∃ lo hi : Int, vs = [.int lo, .int hi] ∧ 0 ≤ lo ∧ lo ≤ 1000000000000 ∧ -1 ≤ hi ∧ hi + 1 - lo ≤ 1000 ∧ ∀ (L : Addr) (xs : List V) (H' : Hp), Same H H' → H L = none → H' L = some (.lst xs) → DpAll K H' xs (usersL lo (hi + 1 - lo).toNat) → Q (.ref L) H'
theorem Same.mut {H H1 : Hp} {p : Addr} {o : HO} (s : Same H H1) (h : H p = none) : Same H (upd H1 p o) := fun b u e => by
  rw [upd_ne (ne_of_none e h)]
  exact s b u e
theorem dpAll_rev {K : PySem.W.Frag} {H : Hp} : ∀ {vs : List V} {ds : List PyData}, DpAll K H vs ds → DpAll K H vs.reverse ds.reverse
  | _, _, .nil => .nil
  | _, _, .cons h t => by
    rw [List.reverse_cons, List.reverse_cons]
    exact dpAll_app (dpAll_rev t) (.cons h .nil)
theorem RulesG.rev {ds : List PyData} (g : RulesG ds) : RulesG ds.reverse := ⟨by rw [List.length_reverse]; exact g.len, fun d h => g.all d (List.mem_reverse.mp h)⟩
theorem RulesG.drop {ds : List PyData} (g : RulesG ds) (n : Nat) : RulesG (ds.drop n) := ⟨by have := g.len; rw [List.length_drop]; omega, fun d h => g.all d (List.mem_of_mem_drop h)⟩
theorem ud_lay (n : Int) (k : Int × Int) : (ud n k).canLay0 = true := by simp [ud, PyData.canLay0, PyData.canLayAll0]
theorem ud_dep (n : Int) (k : Int × Int) : (ud n k).depth ≤ 4 := by
  simp only [ud, PyData.depth, PyData.depthAll]
  omega
theorem shaped_ud (n : Int) (k : Int × Int) : SeqAt.shaped (ud n k) = true := by
  have h : decide ((ud n k).depth ≤ 64) = true := decide_eq_true (by have := ud_dep n k; omega)
  simp only [SeqAt.shaped, ud_lay, h, Bool.and_self]
theorem shaped_uds {l : List PyData} (hl : ∀ d ∈ l, d ∈ usersL 0 100) : SeqAt.shaped (.list l) = true := by
  have h1 : PyData.canLayAll0 l = true := canLayAll_mem fun d hd => by
    obtain ⟨i, k, _, _, rfl⟩ := usersL_mem (hl d hd)
    exact ud_lay _ k
  have h2 := depthAll_le (m := 4) (ds := l) fun d hd => by
    obtain ⟨i, k, _, _, rfl⟩ := usersL_mem (hl d hd)
    exact ud_dep _ k
  have h3 : decide (PyData.depth (.list l) ≤ 64) = true := decide_eq_true (by simp only [PyData.depth]; omega)
  simp only [SeqAt.shaped, PyData.canLay0, h1, h3, Bool.and_self]
theorem eqv_ud (n : Int) (k : Int × Int) : PyData.eqv (ud n k) (ud n k) = true := by
  simp [ud, PyData.eqv, PyData.eqvAll]
theorem loses_ud (ds es : List PyData) (s t n : Int) (k : Int × Int) : losesP ds es s t (ud n k) = (decide ((n * s + t) % 100 < shareL ds k.1 k.2) && !decide ((n * s + t) % 100 < shareL es k.1 k.2)) := rfl
/-- somebody loses just where a share is smaller -/
theorem loser_iff {ds es : List PyData} {s t : Int} (hd : ∀ d ∈ ds, RuleG d) (he : ∀ d ∈ es, RuleG d) (h2 : s % 2 ≠ 0) (h5 : s % 5 ≠ 0) (hs0 : 0 ≤ s) (hs1 : s ≤ 99) : (loserL ds es s t).isSome = kindL.any fun k => decide (shareL es k.1 k.2 < shareL ds k.1 k.2) := by
  unfold loserL
  rw [Bool.eq_iff_iff, List.find?_isSome, List.any_eq_true]
  constructor
  · rintro ⟨u, hu, hp⟩
    obtain ⟨i, k, hi, hk, rfl⟩ := usersL_mem hu
    rw [loses_ud] at hp
    refine ⟨k, hk, decide_eq_true ?_⟩
    simp only [Bool.and_eq_true, Bool.not_eq_true', decide_eq_true_eq, decide_eq_false_iff_not] at hp
    omega
  · rintro ⟨k, hk, hp⟩
    have hp := of_decide_eq_true hp
    have b1 := shareL_bounds (l := k.1) (p := k.2) he
    have b2 := shareL_bounds (l := k.1) (p := k.2) hd
    have hm : shareL es k.1 k.2 ∈ row100 0 s t 100 := by
      rw [(row100_perm (b := 0) (t := t) h2 h5 hs0 hs1).mem_iff]
      unfold upto
      rw [List.mem_map]
      exact ⟨(shareL es k.1 k.2).toNat, List.mem_range.mpr (by omega), by omega⟩
    unfold row100 at hm
    obtain ⟨i, hi, e⟩ := List.mem_map.mp hm
    refine ⟨ud (0 + (i : Int)) k, usersL_has (List.mem_range.mp hi) hk, ?_⟩
    rw [loses_ud, e]
    simp only [Bool.and_eq_true, Bool.not_eq_true', decide_eq_true_eq, decide_eq_false_iff_not]
    omega
theorem loser_self (ds : List PyData) (s t : Int) : loserL ds ds s t = none := by
  refine find?_no fun u _ => ?_
  unfold losesP
  cases letsD (.tuple ds) (.tuple [.int s, .int t]) u <;> rfl
theorem atI_fourV {r : Int} {a b c d : V} (h0 : 0 ≤ r) (h1 : r < 4) : ∃ z, atI [a, b, c, d] r = some z ∧ (z = a ∨ z = b ∨ z = c ∨ z = d) := by
  have h : r = 0 ∨ r = 1 ∨ r = 2 ∨ r = 3 := by omega
  rcases h with rfl | rfl | rfl | rfl
  · exact ⟨a, rfl, by simp⟩
  · exact ⟨b, rfl, by simp⟩
  · exact ⟨c, rfl, by simp⟩
  · exact ⟨d, rfl, by simp⟩
theorem RulesG.im {ds : List PyData} (g : RulesG ds) : RG.imm (.tuple ds) = true := by
  have := g.imm
  simp only [RG.imm, this]
def isStep (d : PyData) : Bool := match d with
  | .tuple [m, c] => isNum m 0 10000 && areRules c
  | _ => false
def spIsStep (K : PySem.W.Frag) : Sp := fun vs H Q _ => ∃ (v : V) (d : PyData), vs = [v] ∧ Dp K H v d ∧ okD d = true ∧ ∀ H', Same H H' → Q (.bl (isStep d)) H'
theorem isStep_no {d : PyData} (h : isTupD d = false) : isStep d = false := by
  cases d <;> first | rfl | cases h
theorem isStep_len {ds : List PyData} (h : ds.length ≠ 2) : isStep (.tuple ds) = false := by
  match ds, h with
  | [], _ => rfl
  | [_], _ => rfl
  | [_, _], h => exact absurd rfl h
  | _ :: _ :: _ :: _, _ => rfl
/-- a step's first day and its rules -/
def beginD (d : PyData) : Int := match d with
  | .tuple (.int a :: _) => a
  | _ => 0
def rulesD (d : PyData) : PyData := match d with
  | .tuple (_ :: r :: _) => r
  | _ => .none
def isCourse (d : PyData) : Bool := match d with
  | .tuple ds => decide (1 ≤ ds.length) && decide (ds.length ≤ 8) && ds.all isStep && (upB (ds.map beginD)).all id
  | _ => false
def spNeedCourse (K : PySem.W.Frag) : Sp := fun vs H Q E => ∃ (v : V) (d : PyData), vs = [v] ∧ Dp K H v d ∧ okD d = true ∧ (isCourse d = true → ∀ H', Same H H' → Q .non H') ∧ (isCourse d = false → ∀ H', Same H H' → E (.ref (He.ga K "BadDay")) none H')
theorem isCourse_no {d : PyData} (h : isTupD d = false) : isCourse d = false := by
  cases d <;> first | rfl | cases h
theorem isStep_inv {d : PyData} (h : isStep d = true) : ∃ (b : Int) (r : List PyData), d = .tuple [.int b, .tuple r] ∧ 0 ≤ b ∧ b ≤ 10000 ∧ areRules (.tuple r) = true := by
  unfold isStep at h
  split at h
  · rename_i m c
    obtain ⟨h1, h2⟩ := Bool.and_eq_true_iff.mp h
    obtain ⟨i, rfl, i0, i1⟩ := isNum_int h1
    obtain ⟨r, rfl⟩ := areRules_inv h2
    exact ⟨i, r, rfl, i0, i1, h2⟩
  · cases h
theorem isCourse_inv {d : PyData} (h : isCourse d = true) : ∃ ds, d = .tuple ds ∧ 1 ≤ ds.length ∧ ds.length ≤ 8 ∧ (∀ e ∈ ds, isStep e = true) ∧ (upB (ds.map beginD)).all id = true := by
  unfold isCourse at h
  split at h
  · rename_i ds
    simp only [Bool.and_eq_true, decide_eq_true_eq] at h
    exact ⟨ds, rfl, h.1.1.1, h.1.1.2, fun e he => List.all_eq_true.mp h.1.2 e he, h.2⟩
  · cases h
theorem chain18 (n : Nat) : (decide ((1 : Int) ≤ (n : Int)) && decide ((n : Int) ≤ 8)) = (decide (1 ≤ n) && decide (n ≤ 8)) := by
  congr 1 <;> rw [decide_eq_decide] <;> omega
def spNeedDay (K : PySem.W.Frag) : Sp := fun vs H Q E => ∃ (v : V) (d : PyData), vs = [v] ∧ Dp K H v d ∧ (isNum d 0 10000 = true → Q .non H) ∧ (isNum d 0 10000 = false → E (.ref (He.ga K "BadDay")) none H)
/-- the rules of the last step that isn't later -/
def rulesOn (day : Int) : PyData → List PyData → PyData
  | f, [] => f
  | f, d :: ds => rulesOn day (if beginD d ≤ day then rulesD d else f) ds
def spRulesOn (K : PySem.W.Frag) : Sp := fun vs H Q E => ∃ (v u : V) (d e : PyData), vs = [v, u] ∧ Dp K H v d ∧ Dp K H u e ∧ okD d = true ∧ (∀ ds day, d = .tuple ds → e = .int day → isCourse d = true → isNum e 0 10000 = true → ∀ v' H', Same H H' → Dp K H' v' (rulesOn day (.tuple []) ds) → Q v' H') ∧
  (isCourse d = false → ∀ H', Same H H' → E (.ref (He.ga K "BadDay")) none H') ∧ (isCourse d = true → isNum e 0 10000 = false → ∀ H', Same H H' → E (.ref (He.ga K "BadDay")) none H')
theorem rulesOn_snoc (day : Int) (e : PyData) : ∀ (f : PyData) (ds : List PyData), rulesOn day f (ds ++ [e]) = if beginD e ≤ day then rulesD e else rulesOn day f ds
  | f, [] => rfl
  | f, d :: ds => rulesOn_snoc day e _ ds
def dayOfL (ds : List PyData) (s t n l p : Int) : Option PyData := ds.find? fun d => decide ((n * s + t) % 100 < shareD (rulesD d) l p)
def dayV : Option PyData → V
  | some d => .int (beginD d)
  | none => .non
def spDayOf (K : PySem.W.Frag) : Sp := fun vs H Q E => ∃ (v w' u : V) (d dl e : PyData), vs = [v, w', u] ∧ Dp K H v d ∧ Dp K H w' dl ∧ Dp K H u e ∧ okD d = true ∧ (∀ ds s t n l p, d = .tuple ds → dl = .tuple [.int s, .int t] → e = .tuple [.int n, .int l, .int p] → isCourse d = true → isDeal dl = true → isUser e = true → ∀ H', Same H H' → Q (dayV (dayOfL ds s t n l p)) H') ∧
  (isCourse d = false → ∀ H', Same H H' → E (.ref (He.ga K "BadDay")) none H') ∧ (isCourse d = true → isDeal dl = false → ∀ H', Same H H' → E (.ref (He.ga K "BadDeal")) none H') ∧ (isCourse d = true → isDeal dl = true → isUser e = false → ∀ H', Same H H' → E (.ref (He.ga K "BadUser")) none H')
theorem findP_at {α : Type} {p : α → Bool} {ds : List α} {i : Nat} {e : α} (h : ds[i]? = some e) (hp : p e = true) (hn : ∀ y ∈ ds.take i, p y = false) : ds.find? p = some e := by
  obtain ⟨hi, ei⟩ := List.getElem?_eq_some_iff.mp h
  rw [List.find?_eq_some_iff_getElem]
  refine ⟨hp, i, hi, ei, fun j hj => ?_⟩
  have := hn ds[j] (by
    rw [List.mem_take_iff_getElem]
    exact ⟨j, by omega, rfl⟩)
  simp [this]
theorem findP_no {α : Type} {p : α → Bool} {ds : List α} (hn : ∀ y ∈ ds, p y = false) : ds.find? p = none := by
  rw [List.find?_eq_none]
  intro y hy
  simp [hn y hy]
def letsAll (ds : List PyData) : Bool := kindL.all fun k => decide (shareL ds k.1 k.2 = 100)
def spLetsAll (K : PySem.W.Frag) : Sp := fun vs H Q _ => ∃ (v : V) (ds : List PyData), vs = [v] ∧ Dp K H v (.tuple ds) ∧ okD (.tuple ds) = true ∧ areRules (.tuple ds) = true ∧ ∀ H', Same H H' → Q (.bl (letsAll ds)) H'
def rulesL (d : PyData) : List PyData := match rulesD d with
  | .tuple r => r
  | _ => []
/-- the first day from which on each has the whole -/
def wholeL : Option Int → List PyData → Option Int
  | f, [] => f
  | f, d :: ds => wholeL (if letsAll (rulesL d) = true then (match f with | some b => some b | none => some (beginD d)) else none) ds
def intV : Option Int → V
  | some i => .int i
  | none => .non
def spWholeDay (K : PySem.W.Frag) : Sp := fun vs H Q E => ∃ (v : V) (d : PyData), vs = [v] ∧ Dp K H v d ∧ okD d = true ∧ (∀ ds, d = .tuple ds → isCourse d = true → ∀ H', Same H H' → Q (intV (wholeL none ds)) H') ∧ (isCourse d = false → ∀ H', Same H H' → E (.ref (He.ga K "BadDay")) none H')
theorem wholeL_snoc (e : PyData) : ∀ (f : Option Int) (ds : List PyData), wholeL f (ds ++ [e]) = if letsAll (rulesL e) = true then (match wholeL f ds with | some b => some b | none => some (beginD e)) else none
  | f, [] => rfl
  | f, d :: ds => wholeL_snoc e _ ds
def stepsR (d : PyData) : List PyData := match d with
  | .tuple [_, .tuple r] => r
  | _ => []
/-- the first day on which somebody loses, and who -/
def lostL (s t : Int) : List PyData → Option PyData
  | d :: e :: r => match loserL (stepsR d) (stepsR e) s t with
    | some u => some (.tuple [.int (beginD e), u])
    | none => lostL s t (e :: r)
  | _ => none
def spLost (K : PySem.W.Frag) : Sp := fun vs H Q E => ∃ (v w' : V) (d dl : PyData), vs = [v, w'] ∧ Dp K H v d ∧ Dp K H w' dl ∧ okD d = true ∧ (∀ ds s t, d = .tuple ds → dl = .tuple [.int s, .int t] → isCourse d = true → isDeal dl = true → ∀ u H', Same H H' → Dp K H' u (optD (lostL s t ds)) → Q u H') ∧
  (isCourse d = false → ∀ H', Same H H' → E (.ref (He.ga K "BadDay")) none H') ∧ (isCourse d = true → isDeal dl = false → ∀ H', Same H H' → E (.ref (He.ga K "BadDeal")) none H')
theorem lostL_at {s t : Int} {ds : List PyData} {i : Nat} {d e : PyData} (h1 : ds[i]? = some d) (h2 : ds[i + 1]? = some e) : lostL s t (ds.drop i) = match loserL (stepsR d) (stepsR e) s t with
    | some u => some (.tuple [.int (beginD e), u])
    | none => lostL s t (ds.drop (i + 1)) := by
  obtain ⟨hi, e1⟩ := List.getElem?_eq_some_iff.mp h1
  obtain ⟨hj, e2⟩ := List.getElem?_eq_some_iff.mp h2
  rw [List.drop_eq_getElem_cons hi, e1, List.drop_eq_getElem_cons hj, e2]
  rfl
/-- no share smaller -/
def GrowD (c e : PyData) : Prop := ∀ k : Int × Int, 0 ≤ k.1 → k.1 ≤ 5 → 0 ≤ k.2 → k.2 ≤ 3 → shareD c k.1 k.2 ≤ shareD e k.1 k.2
def StepG (d : PyData) : Prop := ∃ (b : Int) (r : List PyData), d = .tuple [.int b, .tuple r] ∧ 0 ≤ b ∧ b ≤ 1000 ∧ RulesG r
/-- a drawn course -/
structure CourseG (g : Bool) (ds : List PyData) : Prop where
  one : 1 ≤ ds.length
  len : ds.length ≤ 5
  all : ∀ d ∈ ds, StepG d
  up : (ds.map beginD).Pairwise (· < ·)
  grow : g = true → ds.Pairwise fun d e => GrowD (rulesD d) (rulesD e)
def spLCourse (K : PySem.W.Frag) : Sp := fun vs H Q _ => ∃ (a : Addr) (g : Bool), vs = [.ref a, .bl g] ∧ Dice H a ∧ ∀ v ds H', But a H H' → Dp K H' v (.tuple ds) → CourseG g ds → Q v H'
theorem RulesG.lay {ds : List PyData} (g : RulesG ds) : (PyData.tuple ds).canLay0 = true := by
  have h1 := canLayAll_mem (ds := ds) fun d hd => (g.all d hd).lay
  simp only [PyData.canLay0, h1]
theorem RulesG.dep {ds : List PyData} (g : RulesG ds) : (PyData.tuple ds).depth ≤ 47 := by
  have h2 := depthAll_le (m := 45) (ds := ds) fun d hd => (g.all d hd).dep
  simp only [PyData.depth]
  omega
theorem RulesG.nar {ds : List PyData} (g : RulesG ds) : narrow (.tuple ds) = true := by
  have h3 := narrowAll_of (ds := ds) fun d hd => (g.all d hd).nar
  have h5 : decide (ds.length ≤ 1000) = true := decide_eq_true (by have := g.len; omega)
  simp only [narrow, h3, h5, Bool.and_self]
theorem RulesG.imT {ds : List PyData} (g : RulesG ds) : RG.imm (.tuple ds) = true := by
  have := g.imm
  simp only [RG.imm, this]
theorem StepG.imm {d : PyData} (g : StepG d) : RG.imm d = true := by
  obtain ⟨b, r, rfl, _, _, hr⟩ := g
  have := hr.imT
  simp only [RG.imm, immAll] at this ⊢
  rw [this]
  rfl
theorem StepG.lay {d : PyData} (g : StepG d) : d.canLay0 = true := by
  obtain ⟨b, r, rfl, _, _, hr⟩ := g
  have := hr.lay
  simp only [PyData.canLay0, PyData.canLayAll0] at this ⊢
  rw [this]
  rfl
theorem StepG.dep {d : PyData} (g : StepG d) : d.depth ≤ 50 := by
  obtain ⟨b, r, rfl, _, _, hr⟩ := g
  have := hr.dep
  simp only [PyData.depth, PyData.depthAll] at this ⊢
  omega
theorem StepG.nar {d : PyData} (g : StepG d) : narrow d = true := by
  obtain ⟨b, r, rfl, _, _, hr⟩ := g
  have := hr.nar
  simp only [narrow, narrowAll, List.length_cons, List.length_nil] at this ⊢
  rw [this]
  rfl
theorem StepG.step {d : PyData} (g : StepG d) : isStep d = true := by
  obtain ⟨b, r, rfl, b0, b1, hr⟩ := g
  have := hr.rules
  simp only [isStep, isNum, this, decide_eq_true b0, decide_eq_true (show b ≤ 10000 by omega), Bool.and_self]
theorem pw_up : ∀ {ns : List Int}, ns.Pairwise (· < ·) → (upB ns).all id = true
  | [], _ => rfl
  | [_], _ => rfl
  | a :: b :: r, h => by
    obtain ⟨h1, h2⟩ := List.pairwise_cons.mp h
    simp only [upB, List.all_cons, id, pw_up h2, decide_eq_true (h1 b (by simp)), Bool.and_self]
theorem CourseG.imm {g : Bool} {ds : List PyData} (c : CourseG g ds) : RG.imm (.tuple ds) = true := by
  have := immAll_mem (l := ds) fun d hd => (c.all d hd).imm
  simp only [RG.imm, this]
theorem CourseG.ok {g : Bool} {ds : List PyData} (c : CourseG g ds) : okD (.tuple ds) = true := by
  have h1 := canLayAll_mem (ds := ds) fun d hd => (c.all d hd).lay
  have h2 := depthAll_le (m := 50) (ds := ds) fun d hd => (c.all d hd).dep
  have h3 := narrowAll_of (ds := ds) fun d hd => (c.all d hd).nar
  have h4 : decide (PyData.depth (.tuple ds) ≤ 64) = true := decide_eq_true (by simp only [PyData.depth]; omega)
  have h5 : decide (ds.length ≤ 1000) = true := decide_eq_true (by have := c.len; omega)
  simp only [okD, SeqAt.shaped, PyData.canLay0, h1, h4, narrow, h3, h5, Bool.and_self]
theorem CourseG.course {g : Bool} {ds : List PyData} (c : CourseG g ds) : isCourse (.tuple ds) = true := by
  have h1 : decide (1 ≤ ds.length) = true := decide_eq_true c.one
  have h2 : decide (ds.length ≤ 8) = true := decide_eq_true (by have := c.len; omega)
  have h3 : ds.all isStep = true := List.all_eq_true.mpr fun d hd => (c.all d hd).step
  simp only [isCourse, h1, h2, h3, pw_up c.up, Bool.and_self]
abbrev allD : List PyData := [.tuple [.tuple [.str "plan", .tuple (([0, 1, 2, 3] : List Int).map PyData.int)], .int 100]]
theorem allD_cond : CondG 1 (.tuple [.str "plan", .tuple (([0, 1, 2, 3] : List Int).map PyData.int)]) := condG_leaf (by decide) (.inr ⟨rfl, rfl⟩) (by decide) (by decide +kernel)
theorem allD_G : RulesG allD := ⟨by decide, fun d hd => by
  cases List.mem_singleton.mp hd
  exact ⟨_, 100, 1, rfl, by omega, allD_cond, by omega, by omega⟩⟩
theorem allD_share {l p : Int} (h0 : 0 ≤ p) (h1 : p ≤ 3) : shareL allD l p = 100 := by
  have h : p = 0 ∨ p = 1 ∨ p = 2 ∨ p = 3 := by omega
  simp only [allD, shareL]
  have : fitsD 5 (.tuple [.str "plan", .tuple (([0, 1, 2, 3] : List Int).map PyData.int)]) l p = true := by
    rcases h with rfl | rfl | rfl | rfl <;> rfl
  rw [this]
  rfl
theorem GrowD.trans {c e f : PyData} (h : GrowD c e) (h' : GrowD e f) : GrowD c f := fun k a b c' d => Int.le_trans (h k a b c' d) (h' k a b c' d)
theorem growD_all {r : List PyData} (g : RulesG r) : GrowD (.tuple r) (.tuple allD) := fun k _ _ h0 h1 => by
  show shareL r k.1 k.2 ≤ shareL allD k.1 k.2
  rw [allD_share h0 h1]
  exact (shareL_bounds g.all).2
theorem rulesOn_late {day : Int} : ∀ {f : PyData} {ds : List PyData}, (∀ d ∈ ds, day < beginD d) → rulesOn day f ds = f
  | f, [], _ => rfl
  | f, d :: ds, h => by
    show rulesOn day (if beginD d ≤ day then rulesD d else f) ds = f
    have := h d (by simp)
    rw [if_neg (by omega)]
    exact rulesOn_late fun e he => h e (by simp [he])
theorem rulesOn_G {day : Int} : ∀ {f : PyData} {ds : List PyData}, (∃ r, f = .tuple r ∧ RulesG r) → (∀ d ∈ ds, StepG d) → ∃ r, rulesOn day f ds = .tuple r ∧ RulesG r
  | f, [], hf, _ => hf
  | f, d :: ds, hf, h => by
    refine rulesOn_G (f := if beginD d ≤ day then rulesD d else f) (ds := ds) ?_ fun e he => h e (by simp [he])
    split
    · obtain ⟨b, r, rfl, _, _, hr⟩ := h d (by simp)
      exact ⟨r, rfl, hr⟩
    · exact hf
theorem rulesG_nil : RulesG [] := ⟨by simp, fun d h => by cases h⟩
mutual
theorem eqv_same : ∀ d : PyData, imm d = true → PyData.eqv d d = true
  | .none, _ => rfl
  | .bool b, _ => by cases b <;> rfl
  | .int i, _ => by simp [PyData.eqv]
  | .str z, _ => by simp [PyData.eqv]
  | .tuple xs, h => by
    simp only [PyData.eqv]
    exact eqvAll_same xs (by simpa only [imm] using h)
  | .list _, h => by cases h
  | .dict _, h => by cases h
theorem eqvAll_same : ∀ l : List PyData, immAll l = true → PyData.eqvAll l l = true
  | [], _ => rfl
  | d :: l, h => by
    simp only [immAll, Bool.and_eq_true] at h
    simp only [PyData.eqvAll, eqv_same d h.1, eqvAll_same l h.2, Bool.and_self]
end
theorem up_last {ns : List Int} {x y : Int} (h : ns.Pairwise (· < ·)) (hl : ns.getLast? = some y) (hx : x ∈ ns) : x ≤ y := by
  obtain ⟨ys, rfl⟩ := List.getLast?_eq_some_iff.mp hl
  rw [List.pairwise_append] at h
  rcases List.mem_append.mp hx with hx | hx
  · exact Int.le_of_lt (h.2.2 x hx y (by simp))
  · cases List.mem_singleton.mp hx
    exact Int.le_refl _
theorem rulesOn_at : ∀ {ds : List PyData} {f d : PyData}, (ds.map beginD).Pairwise (· < ·) → d ∈ ds → rulesOn (beginD d) f ds = rulesD d
  | [], _, _, _, h => by cases h
  | e :: ds, f, d, hp, h => by
    rw [List.map_cons, List.pairwise_cons] at hp
    obtain ⟨h1, h2⟩ := hp
    have h1 : ∀ x ∈ ds, beginD e < beginD x := fun x hx => h1 _ (List.mem_map.mpr ⟨x, hx, rfl⟩)
    show rulesOn (beginD d) (if beginD e ≤ beginD d then rulesD e else f) ds = rulesD d
    rcases List.mem_cons.mp h with rfl | h
    · rw [if_pos (Int.le_refl _), rulesOn_late h1]
    · exact rulesOn_at h2 h
def spLRulesOn (K : PySem.W.Frag) : Sp := fun vs H Q _ => ∃ (v : V) (day : Int) (ds : List PyData) (g : Bool), vs = [v, .int day] ∧ Dp K H v (.tuple ds) ∧ CourseG g ds ∧ ∀ v' H', Same H H' → Dp K H' v' (rulesOn day (.tuple []) ds) → Q v' H'
theorem rulesOn_last (day : Int) : ∀ (f : PyData) (ds : List PyData), rulesOn day f ds = (((ds.filter fun d => decide (beginD d ≤ day)).map rulesD).getLast?).getD f
  | f, [] => rfl
  | f, d :: ds => by
    have ih := rulesOn_last day (if beginD d ≤ day then rulesD d else f) ds
    show rulesOn day (if beginD d ≤ day then rulesD d else f) ds = _
    rw [ih, List.filter_cons]
    by_cases h : beginD d ≤ day
    · rw [if_pos h, if_pos (decide_eq_true h), List.map_cons, List.getLast?_cons]
      rfl
    · rw [if_neg h, if_neg (by simpa using h)]
theorem dpAll_last {K : PySem.W.Frag} {H : Hp} : ∀ {vs : List V} {ds : List PyData}, DpAll K H vs ds → ds ≠ [] → ∃ v d, vs.getLast? = some v ∧ ds.getLast? = some d ∧ Dp K H v d
  | _, _, .nil, h => absurd rfl h
  | _, _, .cons (v := v) (d := d) h .nil, _ => ⟨v, d, rfl, rfl, h⟩
  | _, _, .cons h (.cons h2 t), _ => by
    obtain ⟨v, d, e1, e2, hv⟩ := dpAll_last (.cons h2 t) (by simp)
    exact ⟨v, d, by rw [List.getLast?_cons_cons]; exact e1, by rw [List.getLast?_cons_cons]; exact e2, hv⟩
theorem atI_last {xs : List V} {v : V} (h : xs.getLast? = some v) : atI xs (-1) = some v := by
  have hne : xs ≠ [] := fun e => by simp [e] at h
  have hl : 0 < xs.length := List.length_pos_iff.mpr hne
  rw [List.getLast?_eq_getElem?] at h
  have e : ixN xs.length (-1) = some (xs.length - 1) := by
    unfold ixN
    rw [if_neg (by decide)]
    split
    · congr 1
      omega
    · omega
  unfold atI
  rw [e]
  exact h
theorem ok_is_number (T : Tx K mg) : Ok P w K mg base 1 "is_number" ["thing", "low", "high"] (spIsNum K) := by
  refine Ok.mk' T.G_is_number T.F_is_number (fun _ _ _ _ _ _ us hl => match us, hl with | [_, _, _], _ => rfl) sc_is_number (fun vs H Q E h => ?_) (fun cdv A outer s H vs Q E hr h => ?_)
  · obtain ⟨v, d, lo, hi, rfl, hd, q⟩ := h
    rfl
  · obtain ⟨v, d, lo, hi, rfl, hd, q⟩ := h
    refine ⟨(tRet (tAndV (tCB (rIsi K) (tCons (tVar 0) (tCons (tC (.ty "int")) tNil))) (tAndV (tNotV (tCB (rIsi K) (tCons (tVar 0) (tCons (tC (.ty "bool")) tNil)))) (tChain oLe oLe (tVar 1) (tVar 0) (tVar 2))))), (pss_one (ps_ret (pe_and (pe_callB call_isi (by rfl) T.Z_isinstance (by decide +kernel) (pa_cons (pv 0) (pa_cons (pe_bltn (v := .ty "int") (by rfl) T.Z_int (by decide +kernel) rfl) pa_nil))) (pe_and (pe_not (pe_callB call_isi (by rfl) T.Z_isinstance (by decide +kernel) (pa_cons (pv 0) (pa_cons (pe_bltn (v := .ty "bool") (by rfl) T.Z_bool (by decide +kernel) rfl) pa_nil)))) (pe_one (pe_chain op_le op_le (pv 1) (pv 0) (pv 2))))))), ?_⟩
    walk_at "0"
    walk_at "g"
    refine isi_int hd ?_
    walk_at "g"
    cases d with
    | int i =>
      cases hd
      refine if_t rfl ?_
      walk_at "g"
      refine isi_bool (.int i) ?_
      walk_at "g"
      refine if_b (fun h => ?_) (fun h => ?_)
      · walk_at "g"
        have e : isNum (.int i) lo hi = decide (i ≤ hi) := by
          simp only [isNum, h, Bool.true_and]
        rw [← e]
        exact q
      · have e : isNum (.int i) lo hi = false := by
          simp only [isNum, h, Bool.false_and]
        rw [← e]
        exact q
    | bool b =>
      cases hd
      refine if_t rfl ?_
      walk_at "g"
      refine isi_bool (.bl b) ?_
      walk_at "g"
      exact q
    | _ => exact if_f rfl q
theorem ok_rest (T : Tx K mg) : Ok P w K mg base 1 "rest" ["number", "by"] (spRest) := by
  refine Ok.mk' T.G_rest T.F_rest (fun _ _ _ _ _ _ us hl => match us, hl with | [_, _], _ => rfl) sc_rest (fun vs H Q E h => ?_) (fun cdv A outer s H vs Q E hr h => ?_)
  · obtain ⟨n, m, rfl, h1, h2, q⟩ := h
    rfl
  · obtain ⟨n, m, rfl, h1, h2, q⟩ := h
    refine ⟨(tRet (tOp oSub (tVar 0) (tOp oMul (tOp oDiv (tVar 0) (tVar 1)) (tVar 1)))), (pss_one (ps_ret (pe_op op_sub (pv 0) (pe_op op_mul (pe_op op_fdivW (pv 0) (pv 1)) (pv 1))))), ?_⟩
    walk_at "0"
    walk_at "g"
    refine w_I (divW h1 (by omega)) ?_
    walk_at "g"
    refine w_I (.inr ⟨by omega, by omega⟩) ?_
    walk_at "g"
    rw [rest_eq]
    exact q
theorem ok_need_user (T : Tx K mg) : Ok P w K mg base 2 "need_user" ["thing"] (spNeedUser K) := by
  refine Ok.mk' T.G_need_user T.F_need_user (fun _ _ _ _ _ _ us hl => match us, hl with | [_], _ => rfl) sc_need_user (fun vs H Q E h => ?_) (fun cdv A outer s H vs Q E hr h => ?_)
  · obtain ⟨v, d, rfl, hd, q1, q2⟩ := h
    rfl
  · obtain ⟨v, d, rfl, hd, q1, q2⟩ := h
    refine ⟨(tSeq (tIfS (tOr (tNot (tB (tCB (rIsi K) (tCons (tVar 0) (tCons (tC (.ty "tuple")) tNil))))) (tOr (tTest (tOp rNe (tCB (cLen K) (tCons (tVar 0) tNil)) (tC (.int 3)))) (tNot (tB (tCall (spIsNum K) [] E (tCons (tOp (rIxT K) (tVar 0) (tC (.int 0))) (tCons (tC (.int 0)) (tCons (tC (.int 1000000000000)) tNil)))))))) (tRz K E "BadUser") tNext)
      (tIfS (tOr (tNot (tB (tCall (spIsNum K) [] E (tCons (tOp (rIxT K) (tVar 0) (tC (.int 1))) (tCons (tC (.int 0)) (tCons (tOp oSub (tC (.int 6)) (tC (.int 1))) tNil)))))) (tNot (tB (tCall (spIsNum K) [] E (tCons (tOp (rIxT K) (tVar 0) (tC (.int 2))) (tCons (tC (.int 0)) (tCons (tOp oSub (tC (.int 4)) (tC (.int 1))) tNil))))))) (tRz K E "BadUser") tNext)), (pss_cons (ps_if (PW.pt (pw_or (pt_not (pt_val (pe_callB call_isi (by rfl) T.Z_isinstance (by decide +kernel) (pa_cons (pv 0) (pa_cons (pe_bltn (v := .ty "tuple") (by rfl) T.Z_tuple (by decide +kernel) rfl) pa_nil))))) (pw_or (pt_cmpR op_ne (pe_callB call_len (by rfl) T.Z_len (by decide +kernel) (pa_cons (pv 0) pa_nil)) pe_int (nomark _)) (pw_or1 (pt_not (pt_val (pe_f (ok_is_number T) hr (pnx (L2N.takes_of rfl rfl rfl rfl)) (pa_cons (pe_ix ix_tup (pv 0) pe_int (fun _ _ => rfl)) (pa_cons pe_int (pa_cons (pe_gi T.I_GREATEST) pa_nil)))))))))) (pss_one (ps_rz T.X_BadUser (L2N.takes_of rfl rfl rfl rfl))) pss_nil)
      (pss_one (ps_if (PW.pt (pw_or (pt_not (pt_val (pe_f (ok_is_number T) hr (pnx (L2N.takes_of rfl rfl rfl rfl)) (pa_cons (pe_ix ix_tup (pv 0) pe_int (fun _ _ => rfl)) (pa_cons pe_int (pa_cons (pe_op op_sub (pe_gi T.I_LANDS) pe_int) pa_nil)))))) (pw_or1 (pt_not (pt_val (pe_f (ok_is_number T) hr (pnx (L2N.takes_of rfl rfl rfl rfl)) (pa_cons (pe_ix ix_tup (pv 0) pe_int (fun _ _ => rfl)) (pa_cons pe_int (pa_cons (pe_op op_sub (pe_gi T.I_PLANS) pe_int) pa_nil))))))))) (pss_one (ps_rz T.X_BadUser (L2N.takes_of rfl rfl rfl rfl))) pss_nil))), ?_⟩
    walk_at "0"
    walk_at "g"
    refine isi_tuple hd ?_
    walk_at "g"
    by_cases ht : isTupD d = true
    · obtain ⟨ds, rfl⟩ : ∃ ds, d = .tuple ds := by
        cases d <;> first | exact ⟨_, rfl⟩ | cases ht
      refine if_f rfl ?_
      walk_at "g"
      refine w_lenD hd ?_
      walk_at "g"
      refine if_b (fun h => ?_) (fun h => ?_)
      · refine if_t rfl ?_
        walk_at "g"
        refine q2 (isUser_len fun z => ?_)
        rw [z] at h
        simp at h
      · have hl : ds.length = 3 := by
          simp at h
          omega
        match ds, hl with
        | [a, b, c], _ =>
        walk_at "g"
        refine w_ixD0 hd fun u0 h0 => ?_
        walk_at "g"
        refine ⟨_, _, _, _, rfl, h0, ?_⟩
        walk_at "g"
        cases e0 : isNum a 0 1000000000000
        · walk_at "g"
          refine q2 ?_
          simp only [isUser, e0, Bool.false_and]
        · walk_at "g"
          refine w_ixD1 hd fun u1 h1 => ?_
          walk_at "g"
          refine ⟨_, _, _, _, rfl, h1, ?_⟩
          walk_at "g"
          cases e1 : isNum b 0 (6 - 1)
          · walk_at "g"
            refine q2 ?_
            have e1 : isNum b 0 5 = false := e1
            simp only [isUser, e0, e1, Bool.false_and, Bool.and_false]
          · have e1 : isNum b 0 5 = true := e1
            walk_at "g"
            refine w_ixD2 hd fun u2 h2 => ?_
            walk_at "g"
            refine ⟨_, _, _, _, rfl, h2, ?_⟩
            walk_at "g"
            cases e2 : isNum c 0 (4 - 1)
            · walk_at "g"
              refine q2 ?_
              have e2 : isNum c 0 3 = false := e2
              simp only [isUser, e0, e1, e2, Bool.and_false]
            · walk_at "g"
              refine q1 ?_
              have e2 : isNum c 0 3 = true := e2
              simp only [isUser, e0, e1, e2, Bool.and_true]
    · have ht : isTupD d = false := by simpa using ht
      rw [ht]
      walk_at "g"
      refine q2 ?_
      cases d <;> first | rfl | cases ht
theorem ok_need_deal (T : Tx K mg) : Ok P w K mg base 2 "need_deal" ["thing"] (spNeedDeal K) := by
  refine Ok.mk' T.G_need_deal T.F_need_deal (fun _ _ _ _ _ _ us hl => match us, hl with | [_], _ => rfl) sc_need_deal (fun vs H Q E h => ?_) (fun cdv A outer s H vs Q E hr h => ?_)
  · obtain ⟨v, d, rfl, hd, q1, q2⟩ := h
    rfl
  · obtain ⟨v, d, rfl, hd, q1, q2⟩ := h
    refine ⟨(tSeq (tIfS (tOr (tNot (tB (tCB (rIsi K) (tCons (tVar 0) (tCons (tC (.ty "tuple")) tNil))))) (tTest (tOp rNe (tCB (cLen K) (tCons (tVar 0) tNil)) (tC (.int 2))))) (tRz K E "BadDeal") tNext)
      (tSeq (tIfS (tOr (tNot (tB (tCall (spIsNum K) [] E (tCons (tOp (rIxT K) (tVar 0) (tC (.int 0))) (tCons (tC (.int 0)) (tCons (tOp oSub (tC (.int 100)) (tC (.int 1))) tNil)))))) (tNot (tB (tCall (spIsNum K) [] E (tCons (tOp (rIxT K) (tVar 0) (tC (.int 1))) (tCons (tC (.int 0)) (tCons (tOp oSub (tC (.int 100)) (tC (.int 1))) tNil))))))) (tRz K E "BadDeal") tNext)
      (tIfS (tOr (tTest (tOp rEq (tCall (spRest) [] E (tCons (tOp (rIxT K) (tVar 0) (tC (.int 0))) (tCons (tC (.int 2)) tNil))) (tC (.int 0)))) (tTest (tOp rEq (tCall (spRest) [] E (tCons (tOp (rIxT K) (tVar 0) (tC (.int 0))) (tCons (tC (.int 5)) tNil))) (tC (.int 0))))) (tRz K E "BadDeal") tNext))), (pss_cons (ps_if (PW.pt (pw_or (pt_not (pt_val (pe_callB call_isi (by rfl) T.Z_isinstance (by decide +kernel) (pa_cons (pv 0) (pa_cons (pe_bltn (v := .ty "tuple") (by rfl) T.Z_tuple (by decide +kernel) rfl) pa_nil))))) (pw_or1 (pt_cmpR op_ne (pe_callB call_len (by rfl) T.Z_len (by decide +kernel) (pa_cons (pv 0) pa_nil)) pe_int (nomark _))))) (pss_one (ps_rz T.X_BadDeal (L2N.takes_of rfl rfl rfl rfl))) pss_nil)
      (pss_cons (ps_if (PW.pt (pw_or (pt_not (pt_val (pe_f (ok_is_number T) hr (pnx (L2N.takes_of rfl rfl rfl rfl)) (pa_cons (pe_ix ix_tup (pv 0) pe_int (fun _ _ => rfl)) (pa_cons pe_int (pa_cons (pe_op op_sub (pe_gi T.I_PLACES) pe_int) pa_nil)))))) (pw_or1 (pt_not (pt_val (pe_f (ok_is_number T) hr (pnx (L2N.takes_of rfl rfl rfl rfl)) (pa_cons (pe_ix ix_tup (pv 0) pe_int (fun _ _ => rfl)) (pa_cons pe_int (pa_cons (pe_op op_sub (pe_gi T.I_PLACES) pe_int) pa_nil))))))))) (pss_one (ps_rz T.X_BadDeal (L2N.takes_of rfl rfl rfl rfl))) pss_nil)
      (pss_one (ps_if (PW.pt (pw_or (pt_cmpR op_eq (pe_f (ok_rest T) hr (pnx (L2N.takes_of rfl rfl rfl rfl)) (pa_cons (pe_ix ix_tup (pv 0) pe_int (fun _ _ => rfl)) (pa_cons pe_int pa_nil))) pe_int (nomark _)) (pw_or1 (pt_cmpR op_eq (pe_f (ok_rest T) hr (pnx (L2N.takes_of rfl rfl rfl rfl)) (pa_cons (pe_ix ix_tup (pv 0) pe_int (fun _ _ => rfl)) (pa_cons pe_int pa_nil))) pe_int (nomark _))))) (pss_one (ps_rz T.X_BadDeal (L2N.takes_of rfl rfl rfl rfl))) pss_nil)))), ?_⟩
    walk_at "0"
    walk_at "g"
    refine isi_tuple hd ?_
    walk_at "g"
    by_cases ht : isTupD d = true
    · obtain ⟨ds, rfl⟩ : ∃ ds, d = .tuple ds := by
        cases d <;> first | exact ⟨_, rfl⟩ | cases ht
      refine if_f rfl ?_
      walk_at "g"
      refine w_lenD hd ?_
      walk_at "g"
      refine if_b (fun h => ?_) (fun h => ?_)
      · walk_at "g"
        refine q2 (isDeal_len fun z => ?_)
        rw [z] at h
        simp at h
      · have hl : ds.length = 2 := by
          simp at h
          omega
        match ds, hl with
        | [a, b], _ =>
        walk_at "g"
        refine w_ixD0 hd fun u0 h0 => ?_
        walk_at "g"
        refine ⟨_, _, _, _, rfl, h0, ?_⟩
        walk_at "g"
        cases e0 : isNum a 0 (100 - 1)
        · walk_at "g"
          exact q2 (isDeal_a e0)
        · walk_at "g"
          refine w_ixD1 hd fun u1 h1 => ?_
          walk_at "g"
          refine ⟨_, _, _, _, rfl, h1, ?_⟩
          walk_at "g"
          cases e1 : isNum b 0 (100 - 1)
          · walk_at "g"
            exact q2 (isDeal_b e1)
          · walk_at "g"
            obtain ⟨i, rfl, i0, i1⟩ := isNum_int e0
            obtain ⟨j, rfl, j0, j1⟩ := isNum_int e1
            refine w_ixD0 hd fun u2 h2 => ?_
            cases dp_int h2
            walk_at "g"
            refine ⟨i, 2, rfl, by decide, by decide, ?_⟩
            walk_at "g"
            refine if_b (fun z => ?_) (fun z => ?_)
            · walk_at "g"
              refine q2 ?_
              unfold isDeal
              simp only [z, Bool.not_true, Bool.false_and, Bool.and_false]
            · walk_at "g"
              refine w_ixD0 hd fun u3 h3 => ?_
              cases dp_int h3
              walk_at "g"
              refine ⟨i, 5, rfl, by decide, by decide, ?_⟩
              walk_at "g"
              refine if_b (fun z2 => ?_) (fun z2 => ?_)
              · walk_at "g"
                refine q2 ?_
                unfold isDeal
                simp only [z2, Bool.not_true, Bool.and_false]
              · walk_at "g"
                refine q1 ?_
                have a1 : (decide (0 ≤ i) && decide (i ≤ 99)) = true := e0
                have b1 : (decide (0 ≤ j) && decide (j ≤ 99)) = true := e1
                unfold isDeal
                simp only [z, z2, a1, b1, Bool.not_false, Bool.and_true]
    · have ht : isTupD d = false := by simpa using ht
      rw [ht]
      walk_at "g"
      refine q2 ?_
      cases d <;> first | rfl | cases ht
theorem ok_place_of (T : Tx K mg) : Ok P w K mg base 2 "place_of" ["number", "deal"] (spPlaceOf K) := by
  refine Ok.mk' T.G_place_of T.F_place_of (fun _ _ _ _ _ _ us hl => match us, hl with | [_, _], _ => rfl) sc_place_of (fun vs H Q E h => ?_) (fun cdv A outer s H vs Q E hr h => ?_)
  · obtain ⟨n, v, s, t, rfl, hd, h1, h2, q⟩ := h
    rfl
  · obtain ⟨n, v, s, t, rfl, hd, h1, h2, q⟩ := h
    refine ⟨(tRet (tCall (spRest) [] E (tCons (tOp oAdd (tOp oMul (tVar 0) (tOp (rIxT K) (tVar 1) (tC (.int 0)))) (tOp (rIxT K) (tVar 1) (tC (.int 1)))) (tCons (tC (.int 100)) tNil)))), (pss_one (ps_ret (pe_f (ok_rest T) hr (pnx (L2N.takes_of rfl rfl rfl rfl)) (pa_cons (pe_op op_add (pe_op op_mul (pv 0) (pe_ix ix_tup (pv 1) pe_int (fun _ _ => rfl))) (pe_ix ix_tup (pv 1) pe_int (fun _ _ => rfl))) (pa_cons (pe_gi T.I_PLACES) pa_nil))))), ?_⟩
    walk_at "0"
    walk_at "g"
    refine w_ixD0 hd fun u0 h0 => ?_
    cases dp_int h0
    refine w_I (.inr ⟨by omega, by omega⟩) ?_
    walk_at "g"
    refine w_ixD1 hd fun u1 h1 => ?_
    cases dp_int h1
    walk_at "g"
    exact ⟨_, _, rfl, by decide, by decide, q⟩
theorem ok_is_row (T : Tx K mg) : Ok P w K mg base 2 "is_row" ["thing", "most"] (spIsRow K) := by
  refine Ok.mk' T.G_is_row T.F_is_row (fun _ _ _ _ _ _ us hl => match us, hl with | [_, _], _ => rfl) sc_is_row (fun vs H Q E h => ?_) (fun cdv A outer s H vs Q E hr h => ?_)
  · obtain ⟨v, d, m, rfl, hd, sh, q⟩ := h
    rfl
  · obtain ⟨v, d, m, rfl, hd, sh, q⟩ := h
    refine ⟨(tSeq (tIfS (tOr (tNot (tB (tCB (rIsi K) (tCons (tVar 0) (tCons (tC (.ty "tuple")) tNil))))) (tOr (tTest (tOp (rEqD K) (tVar 0) (tTup tNil))) (tNot (tB (tCB (rAll K) (tCons (tLc (iTup K (tVar 0)) (gName 2) tYes (tCall (spIsNum K) [] E0 (tCons (tVar 2) (tCons (tC (.int 0)) (tCons (tOp oSub (tVar 1) (tC (.int 1))) tNil)))) [2]) tNil)))))) (tRet (tC (.bl false))) tNext)
      (tRet (tCB (rAll K) (tCons (tLc (RZ.iZipA K (tCons (tVar 0) (tCons (tSl (rSlA K) (tVar 0) (tPart (tC (.int 1))) tNoPart) tNil))) (gTup K 2 (gCons (gName 2) (gCons (gName 3) gNil))) tYes (tOp oLt (tVar 2) (tVar 3)) [2, 3]) tNil)))), (pss_cons (ps_if (PW.pt (pw_or (pt_not (pt_val (pe_callB call_isi (by rfl) T.Z_isinstance (by decide +kernel) (pa_cons (pv 0) (pa_cons (pe_bltn (v := .ty "tuple") (by rfl) T.Z_tuple (by decide +kernel) rfl) pa_nil))))) (pw_or (pt_cmpR (op_eqD hr.units) (pv 0) (pe_tup pa_nil) (nomark _)) (pw_or1 (pt_not (pt_val (pe_callB (cr_all rfl) (by rfl) T.Z_all (by decide +kernel) (pa_cons (pe_lc (own := [("one", 2)]) rfl sc_is_row.nd (pi_tup (pv 0)) (blkOk_by (own := [("one", 2)]) (N := ["thing", "most", "one", "other"]) (sc := defScope s_is_row) (by decide +kernel)) (fun _ _ _ _ _ => (pg_name (i := 2) sc_is_row.nd rfl (by first | exact Or.inl rfl | exact Or.inr rfl))) (fun _ _ _ _ _ => pts_nil) (fun _ _ _ _ _ => (pe_f (ok_is_number T) hr pn0 (pa_cons (pv 2) (pa_cons pe_int (pa_cons (pe_op op_sub (pv 1) pe_int) pa_nil)))))) pa_nil)))))))) (pss_one (ps_ret pe_bl)) pss_nil)
      (pss_one (ps_ret (pe_callB (cr_all rfl) (by rfl) T.Z_all (by decide +kernel) (pa_cons (pe_lc (own := [("one", 2), ("other", 3)]) rfl sc_is_row.nd (RZ.pi_zipA (by rfl) T.Z_zip (pa_cons (pv 0) (pa_cons (pe_slice sl_tupA (pv 0) (po_some pe_int) po_none) pa_nil))) (blkOk_by (own := [("one", 2), ("other", 3)]) (N := ["thing", "most", "one", "other"]) (sc := defScope s_is_row) (by decide +kernel)) (fun _ _ _ _ _ => (pg_tup (by rfl) (pgs_cons (pg_name (i := 2) sc_is_row.nd rfl (by first | exact Or.inl rfl | exact Or.inr rfl)) (pgs_cons (pg_name (i := 3) sc_is_row.nd rfl (by first | exact Or.inl rfl | exact Or.inr rfl)) pgs_nil)))) (fun _ _ _ _ _ => pts_nil) (fun _ _ _ _ _ => (pe_cmpR op_lt (pv 2) (pv 3) (nomark _)))) pa_nil))))), ?_⟩
    walk_at "0"
    walk_at "g"
    refine isi_tuple hd ?_
    walk_at "g"
    by_cases ht : isTupD d = true
    · obtain ⟨ds, rfl⟩ := is_tup ht
      refine if_f rfl ?_
      walk_at "g"
      refine ⟨Nat.zero_le _, fun p np => ?_⟩
      have s1 : Same H (upd H p (.tup [])) := Same.new np
      refine w_eqD (dp_s s1 hd) (.tup (tupOf upd_same) .nil) (okD_sh sh) (by rfl) ?_
      walk_at "g"
      cases ds with
      | nil =>
        refine if_t rfl ?_
        walk_at "g"
        exact q _ s1
      | cons d0 ds =>
        refine if_f rfl ?_
        walk_at "g"
        generalize upd H p (.tup []) = H1 at *
        have hd1 := dp_s s1 hd
        obtain ⟨a, xs, rfl, hx, hxs⟩ := dp_tuple hd1
        walk_at "g"
        refine ⟨⟨xs, hx⟩, ?_⟩
        have hxl : xs.length = (d0 :: ds).length := dpAll_len hxs
        have hsm := okD_len sh
        refine lc_pure walk_tup (by omega) ((d0 :: ds).map fun y => [V.bl (isNum y 0 (m - 1))]) (by simp [hxl]) (fun H' s => tup_s s hx) ?_ ?_
        · rintro D i acc x H' H'' hD hi hacc hH' iv ⟨rfl, hxi⟩
          walk_at "g"
          refine ⟨rfl, ?_⟩
          walk_at "g"
          obtain ⟨e, he, hde⟩ := dpAll_getV hxs hxi
          refine ⟨_, _, _, _, rfl, dp_s iv.1 hde, ?_⟩
          refine lcp_nx hD (by omega) hacc hH' iv (Same.refl _) ?_
          rw [List.getElem?_map, he]
          rfl
        · intro D H2 hD s2 hH2
          rw [flat_one (fun y => V.bl (isNum y 0 (m - 1)))] at hH2
          walk_at "g"
          refine w_all (bs := (d0 :: ds).map fun y => isNum y 0 (m - 1)) (lstOf (by rw [hH2, List.map_map]; rfl)) ?_
          have eall : ((d0 :: ds).map fun y => isNum y 0 (m - 1)).all id = (d0 :: ds).all fun y => isNum y 0 (m - 1) := by
            rw [List.all_map]
            rfl
          rw [eall]
          walk_at "g"
          cases ea : (d0 :: ds).all fun y => isNum y 0 (m - 1) with
          | false =>
            refine if_t rfl ?_
            walk_at "g"
            have e : isRow (.tuple (d0 :: ds)) m = false := by
              simp only [isRow, ea, Bool.false_and]
            rw [← e]
            exact q _ (s1.trans s2)
          | true =>
            refine if_f rfl ?_
            walk_at "g"
            obtain ⟨ns, ens⟩ := all_nums ea
            have hx2 := tup_s s2 hx
            have exs : xs = ns.map V.int := by
              have h1 := dps_s s2 hxs
              rw [ens] at h1
              exact dpAll_intsV h1
            cases ns with
            | nil => cases ens
            | cons n0 ns =>
            subst exs
            walk_at "g"
            refine w_sl1 hx2 fun p2 np2 => ?_
            walk_at "g"
            have s3 : Same H2 (upd H2 p2 (.tup (ns.map V.int))) := Same.new np2
            generalize hH3 : upd H2 p2 (.tup (ns.map V.int)) = H3 at *
            have hp2 : H3 p2 = some (.tup (ns.map V.int)) := by
              rw [← hH3]
              exact upd_same
            refine ⟨a, p2, _, _, rfl, .inr ⟨tup_s s3 hx2, tupOf hp2, ?_⟩⟩
            have hln : ns.length = ds.length := by
              have := congrArg List.length ens
              simp at this
              omega
            refine lc_pure (walk_zipT (m := ns.length) (by simp)) (by simp at hsm; omega) ((upB (n0 :: ns)).map fun b => [V.bl b]) (by simp [upB_len]) (fun H' s => ⟨tup_s s (tup_s s3 hx2), tupOf (s _ _ hp2)⟩) ?_ ?_
            · rintro D' i acc x H' H'' hD' hi hacc hH' iv ⟨T', x1, x2, rfl, nT, rfl, e1, e2⟩
              walk_at "g"
              refine w_gtup (tupOf upd_same) rfl ?_
              walk_at "g"
              refine ⟨rfl, ?_⟩
              walk_at "g"
              dsimp only at e1 e2
              rw [List.getElem?_map] at e1 e2
              obtain ⟨y1, f1, rfl⟩ := Option.map_eq_some_iff.mp e1
              obtain ⟨y2, f2, rfl⟩ := Option.map_eq_some_iff.mp e2
              walk_at "g"
              refine lcp_nx hD' (by simp at hsm; omega) hacc hH' iv (Same.new nT) ?_
              rw [List.getElem?_map, upB_get f1 (by simpa using f2)]
              rfl
            · intro D' H4 hD' s4 hH4
              rw [flat_one V.bl] at hH4
              walk_at "g"
              refine w_all (lstOf hH4) ?_
              have e : isRow (.tuple (d0 :: ds)) m = (upB (n0 :: ns)).all id := by
                simp only [isRow, ea, Bool.true_and]
                rw [ens, rising_up]
              rw [← e]
              exact q _ (((s1.trans s2).trans s3).trans s4)
    · have ht := not_tup ht
      rw [ht]
      walk_at "g"
      rw [← isRow_no (m := m) ht]
      exact q _ (Same.refl _)
theorem okr_parts_of (T : Tx K mg) : ∀ n : Nat, Ok P w K mg base (3 + n) "parts_of" ["thing", "deep"] (spPartsR K n) := by
  intro n
  induction n with
  | zero =>
    refine (Ok.bot T.G_parts_of T.F_parts_of (fun _ _ _ _ _ _ us hl => match us, hl with | [_, _], _ => rfl)).imp (fun vs H Q E h => ?_)
    obtain ⟨v, d, k, rfl, hk, hd, sh, q⟩ := h
    omega
  | succ n ih =>
  refine Ok.mk' (k := 3 + n) T.G_parts_of T.F_parts_of (fun _ _ _ _ _ _ us hl => match us, hl with | [_, _], _ => rfl) sc_parts_of (fun vs H Q E h => ?_) (fun cdv A outer s H vs Q E hr h => ?_)
  · obtain ⟨v, d, k, rfl, hk, hd, sh, q⟩ := h
    rfl
  · obtain ⟨v, d, k, rfl, hk, hd, sh, q⟩ := h
    refine ⟨(tSeq (tIfS (tOr (tTest (tOp rEq (tVar 1) (tC (.int 0)))) (tOr (tNot (tB (tCB (rIsi K) (tCons (tVar 0) (tCons (tC (.ty "tuple")) tNil))))) (tOr (tTest (tOp oLt (tCB (cLen K) (tCons (tVar 0) tNil)) (tC (.int 2)))) (tNot (tB (tCB (rIsi K) (tCons (tOp (rIxT K) (tVar 0) (tC (.int 0))) (tCons (tC (.ty "str")) tNil)))))))) (tRet (tC (.int 0))) tNext)
      (tSeq (tIfS (tTest (tOp (rIn K false) (tOp (rIxT K) (tVar 0) (tC (.int 0))) (tTup (tCons (tC (.str "land")) (tCons (tC (.str "plan")) tNil))))) (tRet (tCB cInt1 (tCons (tAndV (tOp rEq (tCB (cLen K) (tCons (tVar 0) tNil)) (tC (.int 2))) (tCall (spIsRow K) [] E (tCons (tOp (rIxT K) (tVar 0) (tC (.int 1))) (tCons (tIf (tTest (tOp rEq (tOp (rIxT K) (tVar 0) (tC (.int 0))) (tC (.str "land")))) (tC (.int 6)) (tC (.int 4))) tNil)))) tNil))) tNext)
      (tSeq (tAsg (tOrV (tAndV (tOp (rIn K false) (tOp (rIxT K) (tVar 0) (tC (.int 0))) (tTup (tCons (tC (.str "and")) (tCons (tC (.str "or")) tNil)))) (tChain oLe oLe (tC (.int 3)) (tCB (cLen K) (tCons (tVar 0) tNil)) (tC (.int 6)))) (tAndV (tOp rEq (tOp (rIxT K) (tVar 0) (tC (.int 0))) (tC (.str "not"))) (tOp rEq (tCB (cLen K) (tCons (tVar 0) tNil)) (tC (.int 2))))) (gName 2))
      (tSeq (tAsg (tIf (tB (tVar 2)) (tLc (iTup K (tSl (rSlA K) (tVar 0) (tPart (tC (.int 1))) tNoPart)) (gName 3) tYes (tCall (spPartsR K n) [] E0 (tCons (tVar 3) (tCons (tOp oSub (tVar 1) (tC (.int 1))) tNil))) [3]) (tLst (tCons (tC (.int 0)) tNil))) (gName 4))
      (tRet (tIf (tTest (tOp (rIn K true) (tC (.int 0)) (tVar 4))) (tOp oAdd (tC (.int 1)) (tCB (rSum K) (tCons (tVar 4) tNil))) (tC (.int 0)))))))), (pss_cons (ps_if (PW.pt (pw_or (pt_cmpR op_eq (pv 1) pe_int (nomark _)) (pw_or (pt_not (pt_val (pe_callB call_isi (by rfl) T.Z_isinstance (by decide +kernel) (pa_cons (pv 0) (pa_cons (pe_bltn (v := .ty "tuple") (by rfl) T.Z_tuple (by decide +kernel) rfl) pa_nil))))) (pw_or (pt_cmpR op_lt (pe_callB call_len (by rfl) T.Z_len (by decide +kernel) (pa_cons (pv 0) pa_nil)) pe_int (nomark _)) (pw_or1 (pt_not (pt_val (pe_callB call_isi (by rfl) T.Z_isinstance (by decide +kernel) (pa_cons (pe_ix ix_tup (pv 0) pe_int (fun _ _ => rfl)) (pa_cons (pe_bltn (v := .ty "str") (by rfl) T.Z_str (by decide +kernel) rfl) pa_nil)))))))))) (pss_one (ps_ret pe_int)) pss_nil)
      (pss_cons (ps_if (pt_cmpR op_in_seq (pe_ix ix_tup (pv 0) pe_int (fun _ _ => rfl)) (pe_tup (pa_cons pe_str (pa_cons pe_str pa_nil))) (by rfl)) (pss_one (ps_ret (pe_callTy call_int1 (by rfl) T.Z_int (by decide +kernel) (pa_cons (pe_and (pe_cmpR op_eq (pe_callB call_len (by rfl) T.Z_len (by decide +kernel) (pa_cons (pv 0) pa_nil)) pe_int (nomark _)) (pe_one (pe_f (ok_is_row T) hr (pnx (L2N.takes_of rfl rfl rfl rfl)) (pa_cons (pe_ix ix_tup (pv 0) pe_int (fun _ _ => rfl)) (pa_cons (pe_ifExp (pt_cmpR op_eq (pe_ix ix_tup (pv 0) pe_int (fun _ _ => rfl)) pe_str (nomark _)) (pe_gi T.I_LANDS) (pe_gi T.I_PLANS)) pa_nil))))) pa_nil)))) pss_nil)
      (pss_cons (ps_set (i := 2) sc_parts_of.nd rfl (by first | exact Or.inl rfl | exact Or.inr rfl) (pe_or (pe_and (pe_cmpR op_in_seq (pe_ix ix_tup (pv 0) pe_int (fun _ _ => rfl)) (pe_tup (pa_cons pe_str (pa_cons pe_str pa_nil))) (by rfl)) (pe_one (pe_chain op_le op_le pe_int (pe_callB call_len (by rfl) T.Z_len (by decide +kernel) (pa_cons (pv 0) pa_nil)) pe_int))) (pe_one (pe_and (pe_cmpR op_eq (pe_ix ix_tup (pv 0) pe_int (fun _ _ => rfl)) pe_str (nomark _)) (pe_one (pe_cmpR op_eq (pe_callB call_len (by rfl) T.Z_len (by decide +kernel) (pa_cons (pv 0) pa_nil)) pe_int (nomark _)))))))
      (pss_cons (ps_set (i := 4) sc_parts_of.nd rfl (by first | exact Or.inl rfl | exact Or.inr rfl) (pe_ifExp (pt_val (pv 2)) (pe_lc (own := [("part", 3)]) rfl sc_parts_of.nd (pi_tup (pe_slice sl_tupA (pv 0) (po_some pe_int) po_none)) (blkOk_by (own := [("part", 3)]) (N := ["thing", "deep", "good", "part", "rows"]) (sc := defScope s_parts_of) (by decide +kernel)) (fun _ _ _ _ _ => (pg_name (i := 3) sc_parts_of.nd rfl (by first | exact Or.inl rfl | exact Or.inr rfl))) (fun _ _ _ _ _ => pts_nil) (fun _ _ _ _ _ => (pe_f ih hr pn0 (pa_cons (pv 3) (pa_cons (pe_op op_sub (pv 1) pe_int) pa_nil))))) (pe_lst (pa_cons pe_int pa_nil))))
      (pss_one (ps_ret (pe_ifExp (pt_cmpR op_notIn_seq pe_int (pv 4) (by rfl)) (pe_op op_add pe_int (pe_callB (cr_sum rfl) (by rfl) T.Z_sum (by decide +kernel) (pa_cons (pv 4) pa_nil))) pe_int))))))), ?_⟩
    walk_at "0"
    walk_at "g"
    refine if_b (fun h => ?_) (fun h => ?_)
    · walk_at "g"
      have hk0 : k = 0 := by
        simp at h
        exact h
      subst hk0
      exact q _ (Same.refl _)
    obtain ⟨j, rfl⟩ : ∃ j, k = j + 1 := by
      cases k with
      | zero => simp at h
      | succ j => exact ⟨j, rfl⟩
    walk_at "g"
    refine isi_tuple hd ?_
    walk_at "g"
    cases ht : isTupD d with
    | false =>
      walk_at "g"
      rw [← partsOf_no (n := j + 1) ht]
      exact q _ (Same.refl _)
    | true =>
    obtain ⟨ds, rfl⟩ := is_tup ht
    walk_at "g"
    walk_at "g"
    refine w_lenD hd ?_
    walk_at "g"
    refine if_b (fun h2 => ?_) (fun h2 => ?_)
    · walk_at "g"
      rw [← partsOf_short (n := j + 1) (ds := ds) (by simp at h2; omega)]
      exact q _ (Same.refl _)
    have h2 : 2 ≤ ds.length := by
      simp at h2
      omega
    match ds, h2 with
    | x :: a :: r, _ =>
    walk_at "g"
    refine w_ixD0 hd fun u0 h0 => ?_
    walk_at "g"
    refine isi_str h0 ?_
    walk_at "g"
    cases es : isStrD x with
    | false =>
      refine if_t rfl ?_
      walk_at "g"
      rw [← partsOf_word (n := j + 1) (a := a) (r := r) es]
      exact q _ (Same.refl _)
    | true =>
    obtain ⟨z, rfl⟩ := is_str es
    refine if_f rfl ?_
    walk_at "g"
    refine w_ixD0 hd fun u1 h1 => ?_
    cases dp_str h1
    walk_at "g"
    refine ⟨sz (by simp), fun p np => ?_⟩
    have s1 : Same H (upd H p (.tup [.str "land", .str "plan"])) := Same.new np
    refine w_inT (tupOf upd_same) rfl rfl ?_
    rw [inV_two]
    generalize upd H p (.tup [.str "land", .str "plan"]) = H1 at *
    have hd1 := dp_s s1 hd
    have sha : okD a = true := okD_mem sh (by simp)
    walk_at "g"
    refine if_b (fun hw => ?_) (fun hw => ?_)
    · walk_at "g"
      refine w_lenD hd1 ?_
      walk_at "g"
      have er : decide (((PyData.str z :: a :: r).length : Int) = 2) = r.isEmpty := by
        cases r with
        | nil => rfl
        | cons y t => simp only [List.length_cons, List.isEmpty_cons, decide_eq_false_iff_not]; omega
      rw [er]
      refine if_b (fun hr0 => ?_) (fun hr0 => ?_)
      · walk_at "g"
        refine w_ixD1 hd1 fun u2 ha2 => ?_
        walk_at "g"
        refine w_ixD0 hd1 fun u3 h3 => ?_
        cases dp_str h3
        walk_at "g"
        by_cases hl : z = "land"
        · subst hl
          refine if_t (decide_eq_true rfl) ?_
          walk_at "g"
          refine ⟨_, a, 6, rfl, ha2, sha, fun H2 s2 => ?_⟩
          refine w_intB ?_
          rw [partsOf_land, hr0] at q
          exact q _ (s1.trans s2)
        · refine if_f (decide_eq_false hl) ?_
          walk_at "g"
          refine ⟨_, a, 4, rfl, ha2, sha, fun H2 s2 => ?_⟩
          refine w_intB ?_
          have hpl : z = "plan" := by
            simpa [hl] using hw
          subst hpl
          rw [partsOf_plan, hr0] at q
          exact q _ (s1.trans s2)
      · walk_at "g"
        have e : partsOf (j + 1) (.tuple (.str z :: a :: r)) = 0 := by
          by_cases hl : z = "land"
          · subst hl
            rw [partsOf_land, hr0]
            rfl
          · have hpl : z = "plan" := by
              simpa [hl] using hw
            subst hpl
            rw [partsOf_plan, hr0]
            rfl
        rw [e] at q
        exact q _ s1
    · have nl : ¬ z = "land" := fun e => by simp [e] at hw
      have npn : ¬ z = "plan" := fun e => by simp [e] at hw
      walk_at "s"
      refine evb_use (b := ((decide (z = "and") || decide (z = "or")) && (decide (1 ≤ r.length) && decide (r.length ≤ 4))) || (decide (z = "not") && r.isEmpty)) (evb_or (evb_and ?_ fun _ H2 s2 => ?_) fun _ H2 s2 => (evb_and ?_ fun _ H3 s3 => ?_)) (fun H2 s2 => ?_)
      · intro Q' q'
        walk_at "g"
        refine w_ixD0 hd1 fun u2 hz2 => ?_
        cases dp_str hz2
        walk_at "g"
        refine ⟨sz (by simp), fun p2 np2 => ?_⟩
        refine w_inT (tupOf upd_same) rfl rfl ?_
        rw [inV_two]
        exact q' _ (Same.new np2)
      · intro Q' q'
        walk_at "g"
        refine w_lenD (dp_s s2 hd1) ?_
        walk_at "g"
        simp only [List.length_cons]
        have e1 : decide ((3 : Int) ≤ ((r.length + 1 + 1 : Nat) : Int)) = decide (1 ≤ r.length) := by
          rw [decide_eq_decide]
          omega
        have e2 : decide (((r.length + 1 + 1 : Nat) : Int) ≤ 6) = decide (r.length ≤ 4) := by
          rw [decide_eq_decide]
          omega
        rw [e1]
        refine if_b (fun h3 => ?_) (fun h3 => ?_)
        · walk_at "g"
          rw [h3, Bool.true_and] at q'
          rw [e2]
          exact q' _ (Same.refl _)
        · rw [h3, Bool.false_and] at q'
          exact q' _ (Same.refl _)
      · intro Q' q'
        walk_at "g"
        refine w_ixD0 (dp_s s2 hd1) fun u2 hz2 => ?_
        cases dp_str hz2
        walk_at "g"
        exact q' _ (Same.refl _)
      · intro Q' q'
        walk_at "g"
        refine w_lenD (dp_s s3 (dp_s s2 hd1)) ?_
        walk_at "g"
        have er : decide (((PyData.str z :: a :: r).length : Int) = 2) = r.isEmpty := by
          cases r with
          | nil => rfl
          | cons y t => simp only [List.length_cons, List.isEmpty_cons, decide_eq_false_iff_not]; omega
        rw [er]
        exact q' _ (Same.refl _)
      rw [partsOf_more nl npn] at q
      have hd2 := dp_s s2 hd1
      walk_at "g"
      cases hG : ((decide (z = "and") || decide (z = "or")) && (decide (1 ≤ r.length) && decide (r.length ≤ 4))) || (decide (z = "not") && r.isEmpty) with
      | false =>
        rw [hG] at q
        walk_at "g"
        refine ⟨sz (by simp), fun p3 np3 => ?_⟩
        walk_at "g"
        refine w_ninL (xs := [.int 0]) (lstOf upd_same) rfl rfl ?_
        walk_at "g"
        exact q _ ((s1.trans s2).trans (Same.new np3))
      | true =>
        rw [hG] at q
        walk_at "g"
        obtain ⟨ad, xs, rfl, hx, hxs⟩ := dp_tuple hd2
        cases hxs with
        | cons hx0 hxs =>
        refine w_sl1 hx fun p3 np3 => ?_
        rename_i v0 xs
        have s3 : Same H2 (upd H2 p3 (.tup xs)) := Same.new np3
        have hp3 : (upd H2 p3 (.tup xs)) p3 = some (.tup xs) := upd_same
        generalize upd H2 p3 (.tup xs) = H3 at *
        walk_at "g"
        refine ⟨⟨xs, tupOf hp3⟩, ?_⟩
        have hxs3 := dps_s s3 hxs
        have hln : xs.length = (a :: r).length := dpAll_len hxs3
        have hsm := okD_len sh
        simp only [List.length_cons] at hsm hln
        refine lc_pure walk_tup (by omega) ((a :: r).map fun y => [V.int (partsOf j y)]) (by simp [hln]) (fun H' s => tupOf (s _ _ hp3)) ?_ ?_
        · rintro D i acc x H' H'' hD hi hacc hH' iv ⟨rfl, hxi⟩
          walk_at "g"
          refine ⟨rfl, ?_⟩
          walk_at "g"
          obtain ⟨e, he, hde⟩ := dpAll_getV hxs3 hxi
          have em : e ∈ (PyData.str z :: a :: r) := List.mem_cons_of_mem _ (List.mem_of_getElem? he)
          refine ⟨_, e, j, by simp, by omega, dp_s iv.1 hde, okD_mem sh em, fun H4 s4 => ?_⟩
          refine lcp_nx hD (by omega) hacc hH' iv s4 ?_
          rw [List.getElem?_map, he]
          rfl
        · intro D H4 hD s4 hH4
          rw [flat_one (fun y => V.int (partsOf j y))] at hH4
          have hH4 : H4 D = some (.lst (((a :: r).map (partsOf j)).map V.int)) := by
            rw [hH4, List.map_map]
            rfl
          have sT := ((s1.trans s2).trans s3).trans s4
          generalize hrs : (a :: r).map (partsOf j) = rs at *
          walk_at "g"
          refine w_ninL (lstOf hH4) rfl (flat_ints _) ?_
          rw [inV_ints]
          walk_at "g"
          cases h0 : rs.contains 0 with
          | true =>
            rw [h0] at q
            walk_at "g"
            exact q _ sT
          | false =>
            rw [h0] at q
            walk_at "g"
            refine w_sum (lstOf hH4) ?_
            walk_at "g"
            exact q _ sT
theorem ok_parts_of (T : Tx K mg) : Ok P w K mg base 9 "parts_of" ["thing", "deep"] (spPartsR K 6) := okr_parts_of T 6
theorem ok_is_condition (T : Tx K mg) : Ok P w K mg base 10 "is_condition" ["thing"] (spIsCond K) := by
  refine Ok.mk' T.G_is_condition T.F_is_condition (fun _ _ _ _ _ _ us hl => match us, hl with | [_], _ => rfl) sc_is_condition (fun vs H Q E h => ?_) (fun cdv A outer s H vs Q E hr h => ?_)
  · obtain ⟨v, d, rfl, hd, sh, q⟩ := h
    rfl
  · obtain ⟨v, d, rfl, hd, sh, q⟩ := h
    refine ⟨(tRet (tChain oLe oLe (tC (.int 1)) (tCall (spPartsR K 6) [] E (tCons (tVar 0) (tCons (tC (.int 5)) tNil))) (tC (.int 40)))), (pss_one (ps_ret (pe_chain op_le op_le pe_int (pe_f (ok_parts_of T) hr (pnx (L2N.takes_of rfl rfl rfl rfl)) (pa_cons (pv 0) (pa_cons (pe_gi T.I_MOST_DEEP) pa_nil))) (pe_gi T.I_MOST_PARTS)))), ?_⟩
    walk_at "0"
    walk_at "g"
    refine ⟨v, d, 5, rfl, by decide, hd, sh, fun H1 s1 => ?_⟩
    walk_at "g"
    refine if_b (fun h => ?_) (fun h => ?_)
    · walk_at "g"
      have e : isCond d = decide (partsOf 5 d ≤ 40) := by
        simp only [isCond, h, Bool.true_and]
      rw [← e]
      exact q _ s1
    · have e : isCond d = false := by
        simp only [isCond, h, Bool.false_and]
      rw [← e]
      exact q _ s1
theorem okr_fits (T : Tx K mg) : ∀ n : Nat, Ok P w K mg base (1 + n) "fits" ["condition", "land", "plan"] (spFitsR K n) := by
  intro n
  induction n with
  | zero =>
    refine (Ok.bot T.G_fits T.F_fits (fun _ _ _ _ _ _ us hl => match us, hl with | [_, _, _], _ => rfl)).imp (fun vs H Q E h => ?_)
    obtain ⟨v, d, l, p, k, rfl, hk, hd, sh, hp, q⟩ := h
    omega
  | succ n ih =>
  refine Ok.mk' (k := 1 + n) T.G_fits T.F_fits (fun _ _ _ _ _ _ us hl => match us, hl with | [_, _, _], _ => rfl) sc_fits (fun vs H Q E h => ?_) (fun cdv A outer s H vs Q E hr h => ?_)
  · obtain ⟨v, d, l, p, k, rfl, hk, hd, sh, hp, q⟩ := h
    rfl
  · obtain ⟨v, d, l, p, k, rfl, hk, hd, sh, hp, q⟩ := h
    refine ⟨(tSeq (tIfS (tTest (tOp rEq (tOp (rIxT K) (tVar 0) (tC (.int 0))) (tC (.str "land")))) (tRet (tOp (rIn K false) (tVar 1) (tOp (rIxT K) (tVar 0) (tC (.int 1))))) tNext)
      (tSeq (tIfS (tTest (tOp rEq (tOp (rIxT K) (tVar 0) (tC (.int 0))) (tC (.str "plan")))) (tRet (tOp (rIn K false) (tVar 2) (tOp (rIxT K) (tVar 0) (tC (.int 1))))) tNext)
      (tSeq (tAsg (tLc (iTup K (tSl (rSlA K) (tVar 0) (tPart (tC (.int 1))) tNoPart)) (gName 3) tYes (tCall (spFitsR K n) [] E0 (tCons (tVar 3) (tCons (tVar 1) (tCons (tVar 2) tNil)))) [3]) (gName 4))
      (tSeq (tIfS (tTest (tOp rEq (tOp (rIxT K) (tVar 0) (tC (.int 0))) (tC (.str "not")))) (tRet (tNotV (tOp (rIxL K) (tVar 4) (tC (.int 0))))) tNext)
      (tRet (tIf (tTest (tOp rEq (tOp (rIxT K) (tVar 0) (tC (.int 0))) (tC (.str "and")))) (tCB (rAll K) (tCons (tVar 4) tNil)) (tCB (rAny K) (tCons (tVar 4) tNil)))))))), (pss_cons (ps_if (pt_cmpR op_eq (pe_ix ix_tup (pv 0) pe_int (fun _ _ => rfl)) pe_str (nomark _)) (pss_one (ps_ret (pe_cmpR op_in_seq (pv 1) (pe_ix ix_tup (pv 0) pe_int (fun _ _ => rfl)) (by rfl)))) pss_nil)
      (pss_cons (ps_if (pt_cmpR op_eq (pe_ix ix_tup (pv 0) pe_int (fun _ _ => rfl)) pe_str (nomark _)) (pss_one (ps_ret (pe_cmpR op_in_seq (pv 2) (pe_ix ix_tup (pv 0) pe_int (fun _ _ => rfl)) (by rfl)))) pss_nil)
      (pss_cons (ps_setLc (i := 4) (own := [("part", 3)]) rfl sc_fits.nd rfl rfl (sw_true rfl rfl rfl (by decide +kernel)) (pi_tup (pe_slice sl_tupA (pv 0) (po_some pe_int) po_none)) (blkOk_by (own := [("part", 3)]) (N := ["condition", "land", "plan", "part", "rows"]) (sc := defScope s_fits) (by decide +kernel)) (fun _ _ _ _ _ => (pg_name (i := 3) sc_fits.nd rfl (by first | exact Or.inl rfl | exact Or.inr rfl))) (fun _ _ _ _ _ => pts_nil) (fun _ _ _ _ _ => (pe_f ih hr pn0 (pa_cons (pv 3) (pa_cons (pv 1) (pa_cons (pv 2) pa_nil))))))
      (pss_cons (ps_if (pt_cmpR op_eq (pe_ix ix_tup (pv 0) pe_int (fun _ _ => rfl)) pe_str (nomark _)) (pss_one (ps_ret (pe_not (pe_ix ix_list (pv 4) pe_int (fun _ _ => rfl))))) pss_nil)
      (pss_one (ps_ret (pe_ifExp (pt_cmpR op_eq (pe_ix ix_tup (pv 0) pe_int (fun _ _ => rfl)) pe_str (nomark _)) (pe_callB (cr_all rfl) (by rfl) T.Z_all (by decide +kernel) (pa_cons (pv 4) pa_nil)) (pe_callB (cr_any rfl) (by rfl) T.Z_any (by decide +kernel) (pa_cons (pv 4) pa_nil))))))))), ?_⟩
    walk_at "0"
    obtain ⟨j, rfl⟩ : ∃ j, k = j + 1 := by
      cases k with
      | zero => exact absurd rfl hp
      | succ j => exact ⟨j, rfl⟩
    obtain ⟨z, a, r, rfl, hz⟩ := parts_inv hp
    walk_at "g"
    refine w_ixD0 hd fun u0 h0 => ?_
    cases dp_str h0
    walk_at "g"
    by_cases hl : z = "land"
    · subst hl
      refine if_t (decide_eq_true rfl) ?_
      rcases hz with ⟨_, rfl, hr0⟩ | ⟨e, _⟩ | ⟨e, _⟩
      · obtain ⟨n0, ns, rfl, _⟩ := isRow_inv hr0
        walk_at "g"
        refine w_ixD1 hd fun u1 h1 => ?_
        obtain ⟨ad, xs, rfl, hx, hxs⟩ := dp_tuple h1
        cases dpAll_intsV hxs
        refine w_inT hx rfl (flat_ints _) ?_
        rw [inV_ints, ← inRowD_ints]
        exact q _ (Same.refl _)
      · exact absurd e (by decide +kernel)
      · exact absurd rfl e
    · refine if_f (decide_eq_false hl) ?_
      walk_at "g"
      refine w_ixD0 hd fun u1 h1 => ?_
      cases dp_str h1
      walk_at "g"
      by_cases hpl : z = "plan"
      · subst hpl
        refine if_t (decide_eq_true rfl) ?_
        rcases hz with ⟨e, _⟩ | ⟨_, rfl, hr0⟩ | ⟨_, e, _⟩
        · exact absurd e (by decide +kernel)
        · obtain ⟨n0, ns, rfl, _⟩ := isRow_inv hr0
          walk_at "g"
          refine w_ixD1 hd fun u2 h2 => ?_
          obtain ⟨ad, xs, rfl, hx, hxs⟩ := dp_tuple h2
          cases dpAll_intsV hxs
          refine w_inT hx rfl (flat_ints _) ?_
          rw [inV_ints, ← inRowD_ints]
          have e : fitsD (j + 1) (.tuple [.str "plan", .tuple ((n0 :: ns).map PyData.int)]) l p = inRowD p (.tuple ((n0 :: ns).map PyData.int)) := by
            simp only [fitsD, show ¬ ("plan" : Str) = "land" by decide +kernel, if_false, if_true]
          rw [← e]
          exact q _ (Same.refl _)
        · exact absurd rfl e
      · refine if_f (decide_eq_false hpl) ?_
        rcases hz with ⟨e, _⟩ | ⟨e, _⟩ | ⟨_, _, hw, hys⟩
        · exact absurd e hl
        · exact absurd e hpl
        walk_at "g"
        obtain ⟨ad, xs, rfl, hx, hxs⟩ := dp_tuple hd
        cases hxs with
        | cons hx0 hxs =>
        refine w_sl1 hx fun p3 np3 => ?_
        rename_i v0 xs
        have s3 : Same H (upd H p3 (.tup xs)) := Same.new np3
        have hp3 : (upd H p3 (.tup xs)) p3 = some (.tup xs) := upd_same
        generalize upd H p3 (.tup xs) = H3 at *
        walk_at "g"
        refine ⟨⟨xs, tupOf hp3⟩, ?_⟩
        have hxs3 := dps_s s3 hxs
        have hln : xs.length = (a :: r).length := dpAll_len hxs3
        have hsm := okD_len sh
        simp only [List.length_cons] at hsm hln
        refine lc_pure walk_tup (by omega) ((a :: r).map fun y => [V.bl (fitsD j y l p)]) (by simp [hln]) (fun H' s => tupOf (s _ _ hp3)) ?_ ?_
        · rintro D i acc x H' H'' hD hi hacc hH' iv ⟨rfl, hxi⟩
          walk_at "g"
          refine ⟨rfl, ?_⟩
          walk_at "g"
          obtain ⟨e, he, hde⟩ := dpAll_getV hxs3 hxi
          have em : e ∈ a :: r := List.mem_of_getElem? he
          refine ⟨_, e, l, p, j, rfl, by omega, dp_s iv.1 hde, okD_mem sh (List.mem_cons_of_mem _ em), hys e em, fun H4 s4 => ?_⟩
          refine lcp_nx hD (by omega) hacc hH' iv s4 ?_
          rw [List.getElem?_map, he]
          rfl
        · intro D H4 hD s4 hH4
          rw [flat_one (fun y => V.bl (fitsD j y l p))] at hH4
          have sT := s3.trans s4
          have hd4 := dp_s sT hd
          walk_at "g"
          refine w_ixD0 hd4 fun u2 h2 => ?_
          cases dp_str h2
          walk_at "g"
          by_cases hn : z = "not"
          · subst hn
            refine if_t (decide_eq_true rfl) ?_
            walk_at "g"
            refine w_ixL (lstOf hH4) (v := .bl (fitsD j a l p)) (at_of (j := 0) rfl rfl) ?_
            walk_at "g"
            have e : fitsD (j + 1) (.tuple (.str "not" :: a :: r)) l p = !fitsD j a l p := by
              simp only [fitsD, hl, hpl, if_false, if_true]
            rw [← e]
            exact q _ sT
          · refine if_f (decide_eq_false hn) ?_
            walk_at "g"
            refine w_ixD0 hd4 fun u3 h3 => ?_
            cases dp_str h3
            walk_at "g"
            have hH5 : H4 D = some (.lst (((a :: r).map fun y => fitsD j y l p).map V.bl)) := by
              rw [hH4, List.map_map]
              rfl
            by_cases ha : z = "and"
            · subst ha
              refine if_t (decide_eq_true rfl) ?_
              walk_at "g"
              refine w_all (lstOf hH5) ?_
              have e : fitsD (j + 1) (.tuple (.str "and" :: a :: r)) l p = ((a :: r).map fun y => fitsD j y l p).all id := by
                rw [List.all_map]
                simp only [fitsD, hl, hpl, hn, if_false, if_true]
                rfl
              rw [← e]
              exact q _ sT
            · refine if_f (decide_eq_false ha) ?_
              walk_at "g"
              refine w_any (lstOf hH5) ?_
              have e : fitsD (j + 1) (.tuple (.str z :: a :: r)) l p = ((a :: r).map fun y => fitsD j y l p).any id := by
                rw [List.any_map]
                simp only [fitsD, hl, hpl, hn, ha, if_false]
                rfl
              rw [← e]
              exact q _ sT
theorem ok_fits (T : Tx K mg) : Ok P w K mg base 7 "fits" ["condition", "land", "plan"] (spFitsR K 6) := okr_fits T 6
theorem ok_all_kinds (T : Tx K mg) : Ok P w K mg base 1 "all_kinds" [] (spKinds K) := by
  refine Ok.mk' T.G_all_kinds T.F_all_kinds (fun _ _ _ _ _ _ us hl => match us, hl with | [], _ => rfl) sc_all_kinds (fun vs H Q E h => ?_) (fun cdv A outer s H vs Q E hr h => ?_)
  · obtain ⟨rfl, q⟩ := h
    rfl
  · obtain ⟨rfl, q⟩ := h
    refine ⟨(tSeq (tAsg (tLst tNil) (gName 0))
      (tSeq (tFor (iRng1 (tCons (tC (.int 6)) tNil)) (gName 1) (tAsg (tOp rCat (tVar 0) (tLc (iRng1 (tCons (tC (.int 4)) tNil)) (gName 2) tYes (tTup (tCons (tVar 1) (tCons (tVar 2) tNil))) [2])) (gName 0)))
      (tRet (tVar 0)))), (pss_cons (ps_set (i := 0) sc_all_kinds.nd rfl (by first | exact Or.inl rfl | exact Or.inr rfl) (pe_lst pa_nil))
      (pss_cons (ps_for (passes_of rfl) rfl (pi_range1 (by rfl) T.Z_range (pa_cons (pe_gi T.I_LANDS) pa_nil)) (pg_name (i := 1) sc_all_kinds.nd rfl (by first | exact Or.inl rfl | exact Or.inr rfl)) (pss_one (ps_set (i := 0) sc_all_kinds.nd rfl (by first | exact Or.inl rfl | exact Or.inr rfl) (pe_op op_cat (pv 0) (pe_lc (own := [("plan", 2)]) rfl sc_all_kinds.nd (pi_range1 (by rfl) T.Z_range (pa_cons (pe_gi T.I_PLANS) pa_nil)) (blkOk_by (own := [("plan", 2)]) (N := ["found", "land", "plan"]) (sc := defScope s_all_kinds) (by decide +kernel)) (fun _ _ _ _ _ => (pg_name (i := 2) sc_all_kinds.nd rfl (by first | exact Or.inl rfl | exact Or.inr rfl))) (fun _ _ _ _ _ => pts_nil) (fun _ _ _ _ _ => (pe_tup (pa_cons (pv 1) (pa_cons (pv 2) pa_nil)))))))))
      (pss_one (ps_ret (pv 0))))), ?_⟩
    walk_at "0"
    walk_at "g"
    refine ⟨sz (by simp), fun L0 nL0 => ?_⟩
    walk_at "g"
    refine ⟨by decide, by decide, ?_⟩
    refine for_go walk_range (fun i σ H' => ∃ (L : Addr) (xs : List V) (x1 x2 : Option V), σ = [some (.ref L), x1, x2] ∧ Same H H' ∧ H L = none ∧ H' L = some (.lst xs) ∧ DpAll K H' xs ((kindsTo i).map kd)) ⟨L0, [], _, _, rfl, Same.new nL0, nL0, upd_same, .nil⟩ (fun _ _ _ _ _ => trivial) ?_ ?_
    · rintro i x σ H1 H1' hi ⟨L, xs, x1, x2, rfl, s1, nL, hL, hxs⟩ ⟨rfl, rfl⟩
      walk_at "g"
      refine ⟨by decide, by decide, ?_⟩
      refine lc_data (K := K) walk_range (by decide) ((List.range 4).map fun (p : Nat) => [kd ((i : Int), (p : Int))]) (by simp) (fun _ _ => trivial) ?_ ?_
      · rintro D j acc x H' H'' hD hj hacc hH' iv ⟨rfl, rfl⟩
        walk_at "g"
        refine ⟨rfl, ?_⟩
        walk_at "g"
        refine ⟨sz (by simp), fun t nt => ?_⟩
        have hj4 : j < 4 := hj
        refine lcd_nx hD (by omega) hacc hH' iv (Same.new nt) (dp_kd upd_same) ?_ ?_
        · rw [flat_oneD (fun (p : Nat) => kd ((i : Int), (p : Int)))]
          refine immAll_mem fun d hd => ?_
          obtain ⟨k, _, rfl⟩ := List.mem_map.mp hd
          exact kd_imm _
        · rw [List.getElem?_map, List.getElem?_range hj4]
          simp
      · intro D acc H2 hD s2 hD2 hacc
        rw [flat_oneD (fun (p : Nat) => kd ((i : Int), (p : Int)))] at hacc
        have hxl := dpAll_len hxs
        have hal := dpAll_len hacc
        simp only [List.length_map, kindsTo_len, List.length_range] at hxl hal
        refine w_cat (s2 _ _ hL) hD2 (by omega) fun p3 np3 => ?_
        walk_at "g"
        have s3 : Same H2 (upd H2 p3 (.lst (xs ++ acc))) := Same.new np3
        refine ⟨p3, xs ++ acc, _, _, rfl, (s1.trans s2).trans s3, s1.free (s2.free np3), upd_same, ?_⟩
        rw [kindsTo_succ, List.map_append, List.map_map]
        exact dpAll_app (dps_s s3 (dps_s s2 hxs)) (dps_s s3 hacc)
    · rintro σ H1 ⟨L, xs, x1, x2, rfl, s1, nL, hL, hxs⟩
      walk_at "g"
      exact q L xs H1 s1 nL hL hxs
theorem ok_is_rule (T : Tx K mg) : Ok P w K mg base 11 "is_rule" ["thing"] (spIsRule K) := by
  refine Ok.mk' T.G_is_rule T.F_is_rule (fun _ _ _ _ _ _ us hl => match us, hl with | [_], _ => rfl) sc_is_rule (fun vs H Q E h => ?_) (fun cdv A outer s H vs Q E hr h => ?_)
  · obtain ⟨v, d, rfl, hd, sh, q⟩ := h
    rfl
  · obtain ⟨v, d, rfl, hd, sh, q⟩ := h
    refine ⟨(tRet (tAndV (tCB (rIsi K) (tCons (tVar 0) (tCons (tC (.ty "tuple")) tNil))) (tAndV (tOp rEq (tCB (cLen K) (tCons (tVar 0) tNil)) (tC (.int 2))) (tAndV (tCall (spIsCond K) [] E (tCons (tOp (rIxT K) (tVar 0) (tC (.int 0))) tNil)) (tCall (spIsNum K) [] E (tCons (tOp (rIxT K) (tVar 0) (tC (.int 1))) (tCons (tC (.int 0)) (tCons (tC (.int 100)) tNil)))))))), (pss_one (ps_ret (pe_and (pe_callB call_isi (by rfl) T.Z_isinstance (by decide +kernel) (pa_cons (pv 0) (pa_cons (pe_bltn (v := .ty "tuple") (by rfl) T.Z_tuple (by decide +kernel) rfl) pa_nil))) (pe_and (pe_cmpR op_eq (pe_callB call_len (by rfl) T.Z_len (by decide +kernel) (pa_cons (pv 0) pa_nil)) pe_int (nomark _)) (pe_and (pe_f (ok_is_condition T) hr (pnx (L2N.takes_of rfl rfl rfl rfl)) (pa_cons (pe_ix ix_tup (pv 0) pe_int (fun _ _ => rfl)) pa_nil)) (pe_one (pe_f (ok_is_number T) hr (pnx (L2N.takes_of rfl rfl rfl rfl)) (pa_cons (pe_ix ix_tup (pv 0) pe_int (fun _ _ => rfl)) (pa_cons pe_int (pa_cons (pe_gi T.I_PLACES) pa_nil)))))))))), ?_⟩
    walk_at "0"
    walk_at "g"
    refine isi_tuple hd ?_
    walk_at "g"
    cases ht : isTupD d with
    | false =>
      walk_at "g"
      rw [← isRule_no ht]
      exact q _ (Same.refl _)
    | true =>
    obtain ⟨ds, rfl⟩ := is_tup ht
    walk_at "g"
    refine w_lenD hd ?_
    walk_at "g"
    refine if_b (fun h => ?_) (fun h => ?_)
    · have hl : ds.length = 2 := by
        simp at h
        omega
      match ds, hl with
      | [c, m], _ =>
      walk_at "g"
      refine w_ixD0 hd fun u0 h0 => ?_
      walk_at "g"
      refine ⟨u0, c, rfl, h0, okD_mem sh (by simp), fun H1 s1 => ?_⟩
      walk_at "g"
      cases hc : isCond c with
      | false =>
        walk_at "g"
        have e : isRule (.tuple [c, m]) = false := by
          simp only [isRule, hc, Bool.false_and]
        rw [← e]
        exact q _ s1
      | true =>
        walk_at "g"
        refine w_ixD1 (dp_s s1 hd) fun u1 h1 => ?_
        walk_at "g"
        refine ⟨u1, m, 0, 100, rfl, h1, ?_⟩
        have e : isRule (.tuple [c, m]) = isNum m 0 100 := by
          simp only [isRule, hc, Bool.true_and]
        rw [← e]
        exact q _ s1
    · have e : isRule (.tuple ds) = false := isRule_len fun z => by
        rw [z] at h
        simp at h
      rw [← e]
      exact q _ (Same.refl _)
theorem ok_are_rules (T : Tx K mg) : Ok P w K mg base 12 "are_rules" ["thing"] (spAreRules K) := by
  refine Ok.mk' T.G_are_rules T.F_are_rules (fun _ _ _ _ _ _ us hl => match us, hl with | [_], _ => rfl) sc_are_rules (fun vs H Q E h => ?_) (fun cdv A outer s H vs Q E hr h => ?_)
  · obtain ⟨v, d, rfl, hd, sh, q⟩ := h
    rfl
  · obtain ⟨v, d, rfl, hd, sh, q⟩ := h
    refine ⟨(tRet (tAndV (tCB (rIsi K) (tCons (tVar 0) (tCons (tC (.ty "tuple")) tNil))) (tAndV (tOp oLe (tCB (cLen K) (tCons (tVar 0) tNil)) (tC (.int 6))) (tCB (rAll K) (tCons (tLc (iTup K (tVar 0)) (gName 1) tYes (tCall (spIsRule K) [] E0 (tCons (tVar 1) tNil)) [1]) tNil))))), (pss_one (ps_ret (pe_and (pe_callB call_isi (by rfl) T.Z_isinstance (by decide +kernel) (pa_cons (pv 0) (pa_cons (pe_bltn (v := .ty "tuple") (by rfl) T.Z_tuple (by decide +kernel) rfl) pa_nil))) (pe_and (pe_cmpR op_le (pe_callB call_len (by rfl) T.Z_len (by decide +kernel) (pa_cons (pv 0) pa_nil)) pe_int (nomark _)) (pe_one (pe_callB (cr_all rfl) (by rfl) T.Z_all (by decide +kernel) (pa_cons (pe_lc (own := [("one", 1)]) rfl sc_are_rules.nd (pi_tup (pv 0)) (blkOk_by (own := [("one", 1)]) (N := ["thing", "one"]) (sc := defScope s_are_rules) (by decide +kernel)) (fun _ _ _ _ _ => (pg_name (i := 1) sc_are_rules.nd rfl (by first | exact Or.inl rfl | exact Or.inr rfl))) (fun _ _ _ _ _ => pts_nil) (fun _ _ _ _ _ => (pe_f (ok_is_rule T) hr pn0 (pa_cons (pv 1) pa_nil)))) pa_nil))))))), ?_⟩
    walk_at "0"
    walk_at "g"
    refine isi_tuple hd ?_
    walk_at "g"
    cases ht : isTupD d with
    | false =>
      walk_at "g"
      rw [← areRules_no ht]
      exact q _ (Same.refl _)
    | true =>
    obtain ⟨ds, rfl⟩ := is_tup ht
    walk_at "g"
    refine w_lenD hd ?_
    walk_at "g"
    have e6 : decide ((ds.length : Int) ≤ 6) = decide (ds.length ≤ 6) := by
      rw [decide_eq_decide]
      omega
    rw [e6]
    cases h6 : decide (ds.length ≤ 6) with
    | false =>
      walk_at "g"
      have e : areRules (.tuple ds) = false := by
        simp only [areRules, h6, Bool.false_and]
      rw [← e]
      exact q _ (Same.refl _)
    | true =>
      walk_at "g"
      obtain ⟨a, xs, rfl, hx, hxs⟩ := dp_tuple hd
      walk_at "g"
      refine ⟨⟨xs, hx⟩, ?_⟩
      have hxl : xs.length = ds.length := dpAll_len hxs
      have hsm : ds.length ≤ 6 := of_decide_eq_true h6
      refine lc_pure walk_tup (by omega) (ds.map fun y => [V.bl (isRule y)]) (by simp [hxl]) (fun H' s => tup_s s hx) ?_ ?_
      · rintro D i acc x H' H'' hD hi hacc hH' iv ⟨rfl, hxi⟩
        walk_at "g"
        refine ⟨rfl, ?_⟩
        walk_at "g"
        obtain ⟨e, he, hde⟩ := dpAll_getV hxs hxi
        refine ⟨x, e, rfl, dp_s iv.1 hde, okD_mem sh (List.mem_of_getElem? he), fun H1 s1 => ?_⟩
        refine lcp_nx hD (by omega) hacc hH' iv s1 ?_
        rw [List.getElem?_map, he]
        rfl
      · intro D H1 hD s1 hH1
        rw [flat_one (fun y => V.bl (isRule y))] at hH1
        walk_at "g"
        refine w_all (bs := ds.map isRule) (lstOf (by rw [hH1, List.map_map]; rfl)) ?_
        have e : areRules (.tuple ds) = (ds.map isRule).all id := by
          rw [List.all_map]
          simp only [areRules, h6, Bool.true_and]
          rfl
        rw [← e]
        exact q _ s1
theorem ok_need_rules (T : Tx K mg) : Ok P w K mg base 13 "need_rules" ["thing"] (spNeedRules K) := by
  refine Ok.mk' T.G_need_rules T.F_need_rules (fun _ _ _ _ _ _ us hl => match us, hl with | [_], _ => rfl) sc_need_rules (fun vs H Q E h => ?_) (fun cdv A outer s H vs Q E hr h => ?_)
  · obtain ⟨v, d, rfl, hd, sh, q1, q2⟩ := h
    rfl
  · obtain ⟨v, d, rfl, hd, sh, q1, q2⟩ := h
    refine ⟨(tIfS (tNot (tB (tCall (spAreRules K) [] E (tCons (tVar 0) tNil)))) (tRz K E "BadRules") tNext), (pss_one (ps_if (pt_not (pt_val (pe_f (ok_are_rules T) hr (pnx (L2N.takes_of rfl rfl rfl rfl)) (pa_cons (pv 0) pa_nil)))) (pss_one (ps_rz T.X_BadRules (L2N.takes_of rfl rfl rfl rfl))) pss_nil)), ?_⟩
    walk_at "0"
    walk_at "g"
    refine ⟨v, d, rfl, hd, sh, fun H1 s1 => ?_⟩
    walk_at "g"
    cases h : areRules d with
    | true =>
      walk_at "g"
      exact q1 h _ s1
    | false =>
      walk_at "g"
      exact q2 h _ s1
theorem ok_share_of (T : Tx K mg) : Ok P w K mg base 8 "share_of" ["rules", "land", "plan"] (spShareOf K) := by
  refine Ok.mk' T.G_share_of T.F_share_of (fun _ _ _ _ _ _ us hl => match us, hl with | [_, _, _], _ => rfl) sc_share_of (fun vs H Q E h => ?_) (fun cdv A outer s H vs Q E hr h => ?_)
  · obtain ⟨v, ds, l, p, rfl, hd, sh, hR, q⟩ := h
    rfl
  · obtain ⟨v, ds, l, p, rfl, hd, sh, hR, q⟩ := h
    refine ⟨(tSeq (tFor (iTup K (tVar 0)) (gTup K 2 (gCons (gName 3) (gCons (gName 4) gNil))) (tIfS (tB (tCall (spFitsR K 6) [] E (tCons (tVar 3) (tCons (tVar 1) (tCons (tVar 2) tNil))))) (tRet (tVar 4)) tNext))
      (tRet (tC (.int 0)))), (pss_cons (ps_for (passes_of rfl) rfl (pi_tup (pv 0)) (pg_tup (by rfl) (pgs_cons (pg_name (i := 3) sc_share_of.nd rfl (by first | exact Or.inl rfl | exact Or.inr rfl)) (pgs_cons (pg_name (i := 4) sc_share_of.nd rfl (by first | exact Or.inl rfl | exact Or.inr rfl)) pgs_nil))) (pss_one (ps_if (pt_val (pe_f (ok_fits T) hr (pnx (L2N.takes_of rfl rfl rfl rfl)) (pa_cons (pv 3) (pa_cons (pv 1) (pa_cons (pv 2) pa_nil))))) (pss_one (ps_ret (pv 4))) pss_nil)))
      (pss_one (ps_ret pe_int))), ?_⟩
    walk_at "0"
    walk_at "g"
    obtain ⟨a, xs, rfl, hx, hxs⟩ := dp_tuple hd
    walk_at "g"
    refine ⟨⟨xs, hx⟩, ?_⟩
    have hxl := dpAll_len hxs
    refine for_go walk_tup (fun i σ H' => (∃ x3 x4, σ = [some (.ref a), some (.int l), some (.int p), x3, x4]) ∧ Same H H' ∧ shareL ds l p = shareL (ds.drop i) l p) ⟨⟨_, _, rfl⟩, Same.refl _, rfl⟩ (fun i σ H' _ h => tup_s h.2.1 hx) ?_ ?_
    · rintro i x σ H' H'' hi ⟨⟨x3, x4, rfl⟩, s1, he⟩ ⟨rfl, hxi⟩
      obtain ⟨e, he2, hde⟩ := dpAll_getV hxs hxi
      have hm := List.mem_of_getElem? he2
      obtain ⟨c, m, rfl, hc, m0, m1⟩ := isRule_inv (areRules_mem hR hm)
      obtain ⟨a2, u, rfl, hs2, hu⟩ := dp_pair (dp_s s1 hde)
      refine w_gtup hs2 rfl ?_
      walk_at "g"
      refine ⟨u, c, l, p, 5, rfl, by decide, hu, okD_mem (okD_mem sh hm) (by simp), isCond_parts hc, fun H3 s3 => ?_⟩
      walk_at "g"
      rw [shareL_drop he2] at he
      cases hf : fitsD 5 c l p with
      | true =>
        walk_at "g"
        rw [hf] at he
        have he : shareL ds l p = m := he
        rw [← he]
        exact q _ (s1.trans s3)
      | false =>
        walk_at "g"
        rw [hf] at he
        exact ⟨⟨_, _, rfl⟩, s1.trans s3, he⟩
    · rintro σ H' ⟨⟨x3, x4, rfl⟩, s1, he⟩
      walk_at "g"
      rw [List.drop_of_length_le (by omega)] at he
      have he : shareL ds l p = 0 := he
      rw [← he]
      exact q _ s1
theorem ok_lets (T : Tx K mg) : Ok P w K mg base 9 "lets" ["rules", "deal", "user"] (spLets K) := by
  refine Ok.mk' T.G_lets T.F_lets (fun _ _ _ _ _ _ us hl => match us, hl with | [_, _, _], _ => rfl) sc_lets (fun vs H Q E h => ?_) (fun cdv A outer s H vs Q E hr h => ?_)
  · obtain ⟨v, w', u, ds, s', t', n, l, p, rfl, hd, sh, hR, hw, s0, s1, hu, q⟩ := h
    rfl
  · obtain ⟨v, w', u, ds, s', t', n, l, p, rfl, hd, sh, hR, hw, s0, s1, hu, q⟩ := h
    refine ⟨(tRet (tOp oLt (tCall (spPlaceOf K) [] E (tCons (tOp (rIxT K) (tVar 2) (tC (.int 0))) (tCons (tVar 1) tNil))) (tCall (spShareOf K) [] E (tCons (tVar 0) (tCons (tOp (rIxT K) (tVar 2) (tC (.int 1))) (tCons (tOp (rIxT K) (tVar 2) (tC (.int 2))) tNil)))))), (pss_one (ps_ret (pe_cmpR op_lt (pe_f (ok_place_of T) hr (pnx (L2N.takes_of rfl rfl rfl rfl)) (pa_cons (pe_ix ix_tup (pv 2) pe_int (fun _ _ => rfl)) (pa_cons (pv 1) pa_nil))) (pe_f (ok_share_of T) hr (pnx (L2N.takes_of rfl rfl rfl rfl)) (pa_cons (pv 0) (pa_cons (pe_ix ix_tup (pv 2) pe_int (fun _ _ => rfl)) (pa_cons (pe_ix ix_tup (pv 2) pe_int (fun _ _ => rfl)) pa_nil)))) (nomark _)))), ?_⟩
    walk_at "0"
    walk_at "g"
    refine w_ixD0 hu fun u0 h0 => ?_
    cases dp_int h0
    walk_at "g"
    refine ⟨n, w', s', t', rfl, hw, s0, s1, ?_⟩
    walk_at "g"
    refine w_ixD1 hu fun u1 h1 => ?_
    cases dp_int h1
    walk_at "g"
    refine w_ixD2 hu fun u2 h2 => ?_
    cases dp_int h2
    walk_at "g"
    refine ⟨v, ds, l, p, rfl, hd, sh, hR, fun H2 s2 => ?_⟩
    walk_at "g"
    exact q _ s2
theorem ok_is_let (T : Tx K mg) : Ok P w K mg base 14 "is_let" ["rules", "deal", "user"] (spIsLet K) := by
  refine Ok.mk' T.G_is_let T.F_is_let (fun _ _ _ _ _ _ us hl => match us, hl with | [_, _, _], _ => rfl) sc_is_let (fun vs H Q E h => ?_) (fun cdv A outer s H vs Q E hr h => ?_)
  · obtain ⟨v, w', u, d, dl, e, rfl, hd, hw, he, sh, q1, q2, q3, q4⟩ := h
    rfl
  · obtain ⟨v, w', u, d, dl, e, rfl, hd, hw, he, sh, q1, q2, q3, q4⟩ := h
    refine ⟨(tSeq (tDrop (tCall (spNeedRules K) [] E (tCons (tVar 0) tNil)))
      (tSeq (tDrop (tCall (spNeedDeal K) [] E (tCons (tVar 1) tNil)))
      (tSeq (tDrop (tCall (spNeedUser K) [] E (tCons (tVar 2) tNil)))
      (tRet (tCall (spLets K) [] E (tCons (tVar 0) (tCons (tVar 1) (tCons (tVar 2) tNil)))))))), (pss_cons (ps_expr (pe_f (ok_need_rules T) hr (pnx (L2N.takes_of rfl rfl rfl rfl)) (pa_cons (pv 0) pa_nil)))
      (pss_cons (ps_expr (pe_f (ok_need_deal T) hr (pnx (L2N.takes_of rfl rfl rfl rfl)) (pa_cons (pv 1) pa_nil)))
      (pss_cons (ps_expr (pe_f (ok_need_user T) hr (pnx (L2N.takes_of rfl rfl rfl rfl)) (pa_cons (pv 2) pa_nil)))
      (pss_one (ps_ret (pe_f (ok_lets T) hr (pnx (L2N.takes_of rfl rfl rfl rfl)) (pa_cons (pv 0) (pa_cons (pv 1) (pa_cons (pv 2) pa_nil))))))))), ?_⟩
    walk_at "0"
    walk_at "g"
    refine ⟨v, d, rfl, hd, sh, fun hR H1 s1 => ?_, q2⟩
    walk_at "g"
    refine ⟨w', dl, rfl, dp_s s1 hw, fun hD => ?_, fun hD => q3 hR hD _ s1⟩
    walk_at "g"
    refine ⟨u, e, rfl, dp_s s1 he, fun hu => ?_, fun hu => q4 hR hD hu _ s1⟩
    have qq := q1 hR hD hu
    obtain ⟨ds, rfl⟩ := areRules_inv hR
    obtain ⟨n, l, p, rfl, _⟩ := isUser_is hu
    obtain ⟨s', t', rfl, s0, s1', _⟩ := isDeal_is hD
    walk_at "g"
    exact ⟨v, w', u, ds, s', t', n, l, p, rfl, dp_s s1 hd, sh, hR, dp_s s1 hw, s0, s1', dp_s s1 he, fun H2 s2 => qq _ (s1.trans s2)⟩
theorem ok_users_from (T : Tx K mg) : Ok P w K mg base 2 "users_from" ["since", "high"] (spUsersFrom K) := by
  refine Ok.mk' T.G_users_from T.F_users_from (fun _ _ _ _ _ _ us hl => match us, hl with | [_, _], _ => rfl) sc_users_from (fun vs H Q E h => ?_) (fun cdv A outer s H vs Q E hr h => ?_)
  · obtain ⟨lo, hi, rfl, l0, l1, h0, h1, q⟩ := h
    rfl
  · obtain ⟨lo, hi, rfl, l0, l1, h0, h1, q⟩ := h
    refine ⟨(tSeq (tAsg (tLst tNil) (gName 2))
      (tSeq (tFor (iRng2 (tCons (tVar 0) (tCons (tCB cMin2 (tCons (tOp oAdd (tVar 0) (tC (.int 100))) (tCons (tOp oAdd (tVar 1) (tC (.int 1))) tNil))) tNil))) (gName 3) (tAsg (tOp rCat (tVar 2) (tLc (iList K (tCall (spKinds K) [] E tNil)) (gTup K 2 (gCons (gName 4) (gCons (gName 5) gNil))) tYes (tTup (tCons (tVar 3) (tCons (tVar 4) (tCons (tVar 5) tNil)))) [4, 5])) (gName 2)))
      (tRet (tVar 2)))), (pss_cons (ps_set (i := 2) sc_users_from.nd rfl (by first | exact Or.inl rfl | exact Or.inr rfl) (pe_lst pa_nil))
      (pss_cons (ps_for (passes_of rfl) rfl (pi_range2 (by rfl) T.Z_range (pa_cons (pv 0) (pa_cons (pe_callB (call_min2 rfl) (by rfl) T.Z_min (by decide +kernel) (pa_cons (pe_op op_add (pv 0) (pe_gi T.I_PLACES)) (pa_cons (pe_op op_add (pv 1) pe_int) pa_nil))) pa_nil))) (pg_name (i := 3) sc_users_from.nd rfl (by first | exact Or.inl rfl | exact Or.inr rfl)) (pss_one (ps_set (i := 2) sc_users_from.nd rfl (by first | exact Or.inl rfl | exact Or.inr rfl) (pe_op op_cat (pv 2) (pe_lc (own := [("land", 4), ("plan", 5)]) rfl sc_users_from.nd (pi_list (pe_f0 (ok_all_kinds T) hr (pnx (L2N.takes_of rfl rfl rfl rfl)))) (blkOk_by (own := [("land", 4), ("plan", 5)]) (N := ["since", "high", "found", "number", "land", "plan"]) (sc := defScope s_users_from) (by decide +kernel)) (fun _ _ _ _ _ => (pg_tup (by rfl) (pgs_cons (pg_name (i := 4) sc_users_from.nd rfl (by first | exact Or.inl rfl | exact Or.inr rfl)) (pgs_cons (pg_name (i := 5) sc_users_from.nd rfl (by first | exact Or.inl rfl | exact Or.inr rfl)) pgs_nil)))) (fun _ _ _ _ _ => pts_nil) (fun _ _ _ _ _ => (pe_tup (pa_cons (pv 3) (pa_cons (pv 4) (pa_cons (pv 5) pa_nil))))))))))
      (pss_one (ps_ret (pv 2))))), ?_⟩
    walk_at "0"
    walk_at "g"
    refine ⟨sz (by simp), fun L0 nL0 => ?_⟩
    walk_at "g"
    refine ⟨⟨by omega, by omega, by split <;> omega, by split <;> omega⟩, ?_⟩
    refine for_go walk_range (fun i σ H' => ∃ (L : Addr) (xs : List V) (x3 x4 x5 : Option V), σ = [some (.int lo), some (.int hi), some (.ref L), x3, x4, x5] ∧ Same H H' ∧ H L = none ∧ H' L = some (.lst xs) ∧ DpAll K H' xs (usersL lo i)) ⟨L0, [], _, _, _, rfl, Same.new nL0, nL0, upd_same, .nil⟩ (fun _ _ _ _ _ => trivial) ?_ ?_
    · rintro i x σ H1 H1' hi2 ⟨L, xs, x3, x4, x5, rfl, s1, nL, hL, hxs⟩ ⟨rfl, rfl⟩
      have hxl := dpAll_len hxs
      rw [usersL_len] at hxl
      have hi3 : i < 1000 := by
        have : i < ((if hi + 1 < lo + 100 then hi + 1 else lo + 100) - lo).toNat := hi2
        split at this <;> omega
      walk_at "g"
      refine ⟨rfl, fun LK ks H2 s2 nLK hLK hks => ?_⟩
      walk_at "g"
      refine ⟨⟨ks, lstOf hLK⟩, ?_⟩
      have hkl := dpAll_len hks
      have hk24 : ks.length = 24 := by
        rw [hkl]
        decide
      refine lc_data (K := K) (walk_list (xs := ks)) (by omega) (kindL.map fun k => [ud (lo + (i : Int)) k]) (by rw [hk24]; simp [kindsTo_len]) (fun H' s => lstOf (s _ _ hLK)) ?_ ?_
      · rintro D j acc x H' H'' hD hj hacc hH' iv ⟨rfl, hxj⟩
        obtain ⟨k, a2, hk, rfl, hs2⟩ := getElem?_kd hks hxj
        refine w_gtup (tup_s iv.1 hs2) rfl ?_
        walk_at "g"
        refine ⟨rfl, ?_⟩
        walk_at "g"
        refine ⟨sz (by simp), fun t nt => ?_⟩
        refine lcd_nx hD (by omega) hacc hH' iv (Same.new nt) (d := ud (lo + (i : Int)) k) (.tup (tupOf upd_same) (.cons (.int _) (.cons (.int _) (.cons (.int _) .nil)))) ?_ ?_
        · rw [flat_oneD (fun k : Int × Int => ud (lo + (i : Int)) k)]
          exact immAll_ud _ _
        · rw [List.getElem?_map, hk]
          rfl
      · intro D acc H3 hD s3 hD3 hacc
        rw [flat_oneD (fun k : Int × Int => ud (lo + (i : Int)) k)] at hacc
        have hal := dpAll_len hacc
        have h24 : kindL.length = 24 := by simp [kindsTo_len]
        rw [List.length_map, h24] at hal
        have s23 := s2.trans s3
        refine w_cat (s23 _ _ hL) hD3 (by omega) fun p3 np3 => ?_
        walk_at "g"
        have s4 : Same H3 (upd H3 p3 (.lst (xs ++ acc))) := Same.new np3
        refine ⟨p3, xs ++ acc, _, _, _, rfl, (s1.trans s23).trans s4, s1.free (s23.free np3), upd_same, ?_⟩
        rw [usersL_succ]
        exact dpAll_app (dps_s s4 (dps_s s23 hxs)) (dps_s s4 hacc)
    · rintro σ H1 ⟨L, xs, x3, x4, x5, rfl, s1, nL, hL, hxs⟩
      walk_at "g"
      exact q L xs H1 s1 nL hL hxs
theorem ok_loser_of (T : Tx K mg) : Ok P w K mg base 10 "loser_of" ["rules", "other", "deal"] (spLoserOf K) := by
  refine Ok.mk' T.G_loser_of T.F_loser_of (fun _ _ _ _ _ _ us hl => match us, hl with | [_, _, _], _ => rfl) sc_loser_of (fun vs H Q E h => ?_) (fun cdv A outer s H vs Q E hr h => ?_)
  · obtain ⟨v, v', w', ds, es, s', t', rfl, hd, hd', sh, sh', hR, hR', hw, s0, s1', q⟩ := h
    rfl
  · obtain ⟨v, v', w', ds, es, s', t', rfl, hd, hd', sh, sh', hR, hR', hw, s0, s1', q⟩ := h
    refine ⟨(tSeq (tFor (iList K (tCall (spUsersFrom K) [] E (tCons (tC (.int 0)) (tCons (tC (.int 100)) tNil)))) (gName 3) (tIfS (tAnd (tB (tCall (spLets K) [] E (tCons (tVar 0) (tCons (tVar 2) (tCons (tVar 3) tNil))))) (tNot (tB (tCall (spLets K) [] E (tCons (tVar 1) (tCons (tVar 2) (tCons (tVar 3) tNil))))))) (tRet (tVar 3)) tNext))
      (tRet (tC .non))), (pss_cons (ps_for (passes_of rfl) rfl (pi_list (pe_f (ok_users_from T) hr (pnx (L2N.takes_of rfl rfl rfl rfl)) (pa_cons pe_int (pa_cons (pe_gi T.I_PLACES) pa_nil)))) (pg_name (i := 3) sc_loser_of.nd rfl (by first | exact Or.inl rfl | exact Or.inr rfl)) (pss_one (ps_if (PW.pt (pw_and (pt_val (pe_f (ok_lets T) hr (pnx (L2N.takes_of rfl rfl rfl rfl)) (pa_cons (pv 0) (pa_cons (pv 2) (pa_cons (pv 3) pa_nil))))) (pw_and1 (pt_not (pt_val (pe_f (ok_lets T) hr (pnx (L2N.takes_of rfl rfl rfl rfl)) (pa_cons (pv 1) (pa_cons (pv 2) (pa_cons (pv 3) pa_nil))))))))) (pss_one (ps_ret (pv 3))) pss_nil)))
      (pss_one (ps_ret pe_non))), ?_⟩
    walk_at "0"
    walk_at "g"
    refine ⟨0, 100, rfl, by decide, by decide, by decide, by decide, fun L xs H1 s1 nL hL hxs => ?_⟩
    have hxs : DpAll K H1 xs (usersL 0 100) := hxs
    have hxl := dpAll_len hxs
    rw [usersL_len] at hxl
    walk_at "g"
    refine ⟨⟨xs, lstOf hL⟩, ?_⟩
    refine for_go (walk_list (xs := xs)) (fun i σ H' => (∃ x3, σ = [some v, some v', some w', x3]) ∧ Same H1 H' ∧ ∀ y ∈ (usersL 0 100).take i, losesP ds es s' t' y = false) ⟨⟨_, rfl⟩, Same.refl _, fun _ h => by simp at h⟩ (fun _ _ H' _ h => lstOf (h.2.1 _ _ hL)) ?_ ?_
    · rintro i x σ H2 H2' hi ⟨⟨x3, rfl⟩, s2, hall⟩ ⟨rfl, hxi⟩
      obtain ⟨e, he, hde⟩ := dpAll_getV hxs hxi
      obtain ⟨j, k, hj, hk, rfl⟩ := usersL_mem (List.mem_of_getElem? he)
      have sA := s1.trans s2
      have hu := dp_s s2 hde
      walk_at "g"
      refine ⟨v, w', x, ds, s', t', _, _, _, rfl, dp_s sA hd, sh, hR, dp_s sA hw, s0, s1', hu, fun H3 s3 => ?_⟩
      walk_at "g"
      have e1 : letsD (.tuple ds) (.tuple [.int s', .int t']) (ud (0 + (j : Int)) k) = decide (((0 + (j : Int)) * s' + t') % 100 < shareL ds k.1 k.2) := rfl
      have e2 : letsD (.tuple es) (.tuple [.int s', .int t']) (ud (0 + (j : Int)) k) = decide (((0 + (j : Int)) * s' + t') % 100 < shareL es k.1 k.2) := rfl
      have hstep : losesP ds es s' t' (ud (0 + (j : Int)) k) = false → ∀ y ∈ (usersL 0 100).take (i + 1), losesP ds es s' t' y = false := fun hf y hy => by
        rw [List.take_add_one, he] at hy
        rcases List.mem_append.mp hy with hy | hy
        · exact hall y hy
        · have ey : y = ud (0 + (j : Int)) k := by simpa using hy
          subst ey
          exact hf
      unfold losesP at hstep
      rw [e1, e2] at hstep
      cases ha : decide (((0 + (j : Int)) * s' + t') % 100 < shareL ds k.1 k.2) with
      | true =>
        rw [ha] at hstep
        walk_at "g"
        refine ⟨v', w', x, es, s', t', _, _, _, rfl, dp_s s3 (dp_s sA hd'), sh', hR', dp_s s3 (dp_s sA hw), s0, s1', dp_s s3 hu, fun H4 s4 => ?_⟩
        walk_at "g"
        cases hb : decide (((0 + (j : Int)) * s' + t') % 100 < shareL es k.1 k.2) with
        | true =>
          rw [hb] at hstep
          walk_at "g"
          exact ⟨⟨_, rfl⟩, (s2.trans s3).trans s4, hstep rfl⟩
        | false =>
          walk_at "g"
          refine q x _ ((sA.trans s3).trans s4) ?_
          have ef : loserL ds es s' t' = some (ud (0 + (j : Int)) k) := find?_at he (by unfold losesP; rw [e1, e2, ha, hb]; rfl) hall
          rw [ef]
          exact dp_s s4 (dp_s s3 hu)
      | false =>
        rw [ha] at hstep
        walk_at "g"
        exact ⟨⟨_, rfl⟩, s2.trans s3, hstep rfl⟩
    · rintro σ H2 ⟨⟨x3, rfl⟩, s2, hall⟩
      walk_at "g"
      rw [List.take_of_length_le (by rw [usersL_len]; omega)] at hall
      refine q _ _ (s1.trans s2) ?_
      have ef : loserL ds es s' t' = none := find?_no hall
      rw [ef]
      exact .non
theorem ok_is_step (T : Tx K mg) : Ok P w K mg base 13 "is_step" ["thing"] (spIsStep K) := by
  refine Ok.mk' T.G_is_step T.F_is_step (fun _ _ _ _ _ _ us hl => match us, hl with | [_], _ => rfl) sc_is_step (fun vs H Q E h => ?_) (fun cdv A outer s H vs Q E hr h => ?_)
  · obtain ⟨v, d, rfl, hd, sh, q⟩ := h
    rfl
  · obtain ⟨v, d, rfl, hd, sh, q⟩ := h
    refine ⟨(tRet (tAndV (tCB (rIsi K) (tCons (tVar 0) (tCons (tC (.ty "tuple")) tNil))) (tAndV (tOp rEq (tCB (cLen K) (tCons (tVar 0) tNil)) (tC (.int 2))) (tAndV (tCall (spIsNum K) [] E (tCons (tOp (rIxT K) (tVar 0) (tC (.int 0))) (tCons (tC (.int 0)) (tCons (tC (.int 10000)) tNil)))) (tCall (spAreRules K) [] E (tCons (tOp (rIxT K) (tVar 0) (tC (.int 1))) tNil)))))), (pss_one (ps_ret (pe_and (pe_callB call_isi (by rfl) T.Z_isinstance (by decide +kernel) (pa_cons (pv 0) (pa_cons (pe_bltn (v := .ty "tuple") (by rfl) T.Z_tuple (by decide +kernel) rfl) pa_nil))) (pe_and (pe_cmpR op_eq (pe_callB call_len (by rfl) T.Z_len (by decide +kernel) (pa_cons (pv 0) pa_nil)) pe_int (nomark _)) (pe_and (pe_f (ok_is_number T) hr (pnx (L2N.takes_of rfl rfl rfl rfl)) (pa_cons (pe_ix ix_tup (pv 0) pe_int (fun _ _ => rfl)) (pa_cons pe_int (pa_cons (pe_gi T.I_LAST_DAY) pa_nil)))) (pe_one (pe_f (ok_are_rules T) hr (pnx (L2N.takes_of rfl rfl rfl rfl)) (pa_cons (pe_ix ix_tup (pv 0) pe_int (fun _ _ => rfl)) pa_nil)))))))), ?_⟩
    walk_at "0"
    walk_at "g"
    refine isi_tuple hd ?_
    walk_at "g"
    cases ht : isTupD d with
    | false =>
      walk_at "g"
      rw [← isStep_no ht]
      exact q _ (Same.refl _)
    | true =>
    obtain ⟨ds, rfl⟩ := is_tup ht
    walk_at "g"
    refine w_lenD hd ?_
    walk_at "g"
    refine if_b (fun h => ?_) (fun h => ?_)
    · have hl : ds.length = 2 := by
        simp at h
        omega
      match ds, hl with
      | [m, c], _ =>
      walk_at "g"
      refine w_ixD0 hd fun u0 h0 => ?_
      walk_at "g"
      refine ⟨u0, m, 0, 10000, rfl, h0, ?_⟩
      walk_at "g"
      cases hc : isNum m 0 10000 with
      | false =>
        walk_at "g"
        have e : isStep (.tuple [m, c]) = false := by
          simp only [isStep, hc, Bool.false_and]
        rw [← e]
        exact q _ (Same.refl _)
      | true =>
        walk_at "g"
        refine w_ixD1 hd fun u1 h1 => ?_
        walk_at "g"
        refine ⟨u1, c, rfl, h1, okD_mem sh (by simp), fun H1 s1 => ?_⟩
        have e : isStep (.tuple [m, c]) = areRules c := by
          simp only [isStep, hc, Bool.true_and]
        rw [← e]
        exact q _ s1
    · have e : isStep (.tuple ds) = false := isStep_len fun z => by
        rw [z] at h
        simp at h
      rw [← e]
      exact q _ (Same.refl _)
theorem ok_need_course (T : Tx K mg) : Ok P w K mg base 14 "need_course" ["thing"] (spNeedCourse K) := by
  refine Ok.mk' T.G_need_course T.F_need_course (fun _ _ _ _ _ _ us hl => match us, hl with | [_], _ => rfl) sc_need_course (fun vs H Q E h => ?_) (fun cdv A outer s H vs Q E hr h => ?_)
  · obtain ⟨v, d, rfl, hd, sh, q1, q2⟩ := h
    rfl
  · obtain ⟨v, d, rfl, hd, sh, q1, q2⟩ := h
    refine ⟨(tSeq (tIfS (tOr (tNot (tB (tCB (rIsi K) (tCons (tVar 0) (tCons (tC (.ty "tuple")) tNil))))) (tOr (tNot (tTest (tChain oLe oLe (tC (.int 1)) (tCB (cLen K) (tCons (tVar 0) tNil)) (tC (.int 8))))) (tNot (tB (tCB (rAll K) (tCons (tLc (iTup K (tVar 0)) (gName 1) tYes (tCall (spIsStep K) [] E0 (tCons (tVar 1) tNil)) [1]) tNil)))))) (tRz K E "BadDay") tNext)
      (tFor (RZ.iZipA K (tCons (tVar 0) (tCons (tSl (rSlA K) (tVar 0) (tPart (tC (.int 1))) tNoPart) tNil))) (gTup K 2 (gCons (gName 1) (gCons (gName 2) gNil))) (tIfS (tTest (tOp oGe (tOp (rIxT K) (tVar 1) (tC (.int 0))) (tOp (rIxT K) (tVar 2) (tC (.int 0))))) (tRz K E "BadDay") tNext))), (pss_cons (ps_if (PW.pt (pw_or (pt_not (pt_val (pe_callB call_isi (by rfl) T.Z_isinstance (by decide +kernel) (pa_cons (pv 0) (pa_cons (pe_bltn (v := .ty "tuple") (by rfl) T.Z_tuple (by decide +kernel) rfl) pa_nil))))) (pw_or (pt_not (pt_chain op_le op_le pe_int (pe_callB call_len (by rfl) T.Z_len (by decide +kernel) (pa_cons (pv 0) pa_nil)) pe_int)) (pw_or1 (pt_not (pt_val (pe_callB (cr_all rfl) (by rfl) T.Z_all (by decide +kernel) (pa_cons (pe_lc (own := [("one", 1)]) rfl sc_need_course.nd (pi_tup (pv 0)) (blkOk_by (own := [("one", 1)]) (N := ["thing", "one", "other"]) (sc := defScope s_need_course) (by decide +kernel)) (fun _ _ _ _ _ => (pg_name (i := 1) sc_need_course.nd rfl (by first | exact Or.inl rfl | exact Or.inr rfl))) (fun _ _ _ _ _ => pts_nil) (fun _ _ _ _ _ => (pe_f (ok_is_step T) hr pn0 (pa_cons (pv 1) pa_nil)))) pa_nil)))))))) (pss_one (ps_rz T.X_BadDay (L2N.takes_of rfl rfl rfl rfl))) pss_nil)
      (pss_one (ps_for (passes_of rfl) rfl (RZ.pi_zipA (by rfl) T.Z_zip (pa_cons (pv 0) (pa_cons (pe_slice sl_tupA (pv 0) (po_some pe_int) po_none) pa_nil))) (pg_tup (by rfl) (pgs_cons (pg_name (i := 1) sc_need_course.nd rfl (by first | exact Or.inl rfl | exact Or.inr rfl)) (pgs_cons (pg_name (i := 2) sc_need_course.nd rfl (by first | exact Or.inl rfl | exact Or.inr rfl)) pgs_nil))) (pss_one (ps_if (pt_cmpR op_ge (pe_ix ix_tup (pv 1) pe_int (fun _ _ => rfl)) (pe_ix ix_tup (pv 2) pe_int (fun _ _ => rfl)) (nomark _)) (pss_one (ps_rz T.X_BadDay (L2N.takes_of rfl rfl rfl rfl))) pss_nil))))), ?_⟩
    walk_at "0"
    walk_at "g"
    refine isi_tuple hd ?_
    walk_at "g"
    cases ht : isTupD d with
    | false =>
      walk_at "g"
      exact q2 (isCourse_no ht) _ (Same.refl _)
    | true =>
    obtain ⟨ds, rfl⟩ := is_tup ht
    walk_at "g"
    refine w_lenD hd ?_
    walk_at "g"
    have hno : (decide (1 ≤ ds.length) && decide (ds.length ≤ 8) && ds.all isStep && (upB (ds.map beginD)).all id) = false → ∀ H', Same H H' → E (.ref (He.ga K "BadDay")) none H' := q2
    have hyes : (decide (1 ≤ ds.length) && decide (ds.length ≤ 8) && ds.all isStep && (upB (ds.map beginD)).all id) = true → ∀ H', Same H H' → Q .non H' := q1
    have e1 : decide (1 ≤ ds.length) = decide ((1 : Int) ≤ (ds.length : Int)) := by
      rw [decide_eq_decide]
      omega
    have e8 : decide (ds.length ≤ 8) = decide ((ds.length : Int) ≤ 8) := by
      rw [decide_eq_decide]
      omega
    rw [e1, e8] at hno hyes
    cases h1 : decide ((1 : Int) ≤ (ds.length : Int)) with
    | false =>
      rw [h1] at hno
      walk_at "g"
      exact hno (by simp) _ (Same.refl _)
    | true =>
      walk_at "g"
      cases h8 : decide ((ds.length : Int) ≤ 8) with
      | false =>
        rw [h8] at hno
        walk_at "g"
        exact hno (by simp) _ (Same.refl _)
      | true =>
        rw [h1, h8] at hno hyes
        have h8 := of_decide_eq_true h8
        walk_at "g"
        obtain ⟨a, xs, rfl, hx, hxs⟩ := dp_tuple hd
        have hxl : xs.length = ds.length := dpAll_len hxs
        walk_at "g"
        refine ⟨⟨xs, hx⟩, ?_⟩
        refine lc_pure walk_tup (by omega) (ds.map fun y => [V.bl (isStep y)]) (by simp [hxl]) (fun H' s => tup_s s hx) ?_ ?_
        · rintro D i acc x H' H'' hD hi hacc hH' iv ⟨rfl, hxi⟩
          walk_at "g"
          refine ⟨rfl, ?_⟩
          walk_at "g"
          obtain ⟨e, he, hde⟩ := dpAll_getV hxs hxi
          refine ⟨x, e, rfl, dp_s iv.1 hde, okD_mem sh (List.mem_of_getElem? he), fun H1 s1 => ?_⟩
          refine lcp_nx hD (by omega) hacc hH' iv s1 ?_
          rw [List.getElem?_map, he]
          rfl
        · intro D H1 hD s1 hH1
          rw [flat_one (fun y => V.bl (isStep y))] at hH1
          walk_at "g"
          refine w_all (bs := ds.map isStep) (lstOf (by rw [hH1, List.map_map]; rfl)) ?_
          have eal : (ds.map isStep).all id = ds.all isStep := by
            rw [List.all_map]
            rfl
          rw [eal]
          cases hal : ds.all isStep with
          | false =>
            rw [hal] at hno
            walk_at "g"
            exact hno (by simp) _ s1
          | true =>
            rw [hal] at hno hyes
            have hst : ∀ e ∈ ds, isStep e = true := fun e he => List.all_eq_true.mp hal e he
            walk_at "g"
            have hx1 := tup_s s1 hx
            have hxs1 := dps_s s1 hxs
            refine w_slFrom (k := 1) (dp_s s1 hd) fun u2 H2 s2 hu2 => ?_
            walk_at "g"
            obtain ⟨b2, ys, rfl, hy, hys⟩ := dp_tuple hu2
            have hyl := dpAll_len hys
            rw [List.length_drop] at hyl
            have hx2 := tup_s s2 hx1
            have hxs2 := dps_s s2 hxs1
            have s12 := s1.trans s2
            refine ⟨a, b2, _, _, rfl, .inr ⟨hx2, hy, ?_⟩⟩
            refine for_go (walk_zipT (m := ds.length - 1) (by omega)) (fun i σ H' => (∃ x1 x2, σ = [some (.ref a), x1, x2]) ∧ Same H2 H' ∧ ((upB (ds.map beginD)).take i).all id = true) ⟨⟨_, _, rfl⟩, Same.refl _, rfl⟩ (fun _ _ H' _ h => ⟨tup_s h.2.1 hx2, tup_s h.2.1 hy⟩) ?_ ?_
            · rintro i x σ H3 H3' hi ⟨⟨x1, x2, rfl⟩, s3, hall⟩ ⟨T', y1, y2, rfl, nT, rfl, e1, e2⟩
              dsimp only at e1 e2
              obtain ⟨c1, hc1, hd1⟩ := dpAll_getV hxs2 e1
              obtain ⟨c2, hc2, hd2⟩ := dpAll_getV hys e2
              rw [List.getElem?_drop] at hc2
              obtain ⟨p1, r1, rfl, _⟩ := isStep_inv (hst c1 (List.mem_of_getElem? hc1))
              obtain ⟨p2, r2, rfl, _⟩ := isStep_inv (hst c2 (List.mem_of_getElem? hc2))
              have sN : Same H3 (upd H3 T' (.tup [y1, y2])) := Same.new nT
              have s3N := s3.trans sN
              refine w_gtup (tupOf upd_same) rfl ?_
              walk_at "g"
              refine w_ixD0 (dp_s s3N hd1) fun z1 hz1 => ?_
              cases dp_int hz1
              walk_at "g"
              refine w_ixD0 (dp_s s3N hd2) fun z2 hz2 => ?_
              cases dp_int hz2
              walk_at "g"
              have hup : (upB (ds.map beginD))[i]? = some (decide (p1 < p2)) := upB_get (by rw [List.getElem?_map, hc1]; rfl) (by rw [List.getElem?_map, show i + 1 = 1 + i by omega, hc2]; rfl)
              refine if_b (fun h => ?_) (fun h => ?_)
              · walk_at "g"
                have hf : decide (p1 < p2) = false := decide_eq_false (by have := of_decide_eq_true h; omega)
                rw [hf] at hup
                have : (upB (ds.map beginD)).all id = false := List.all_eq_false.mpr ⟨false, List.mem_of_getElem? hup, by simp⟩
                rw [this] at hno
                exact hno (by simp) _ (s12.trans s3N)
              · walk_at "g"
                have hf : decide (p1 < p2) = true := decide_eq_true (by have := of_decide_eq_false h; omega)
                rw [hf] at hup
                refine ⟨⟨_, _, rfl⟩, s3N, ?_⟩
                rw [List.take_add_one, hup, List.all_append, hall]
                rfl
            · rintro σ H3 ⟨⟨x1, x2, rfl⟩, s3, hall⟩
              walk_at "g"
              rw [List.take_of_length_le (by rw [upB_len, List.length_map]; omega)] at hall
              rw [hall] at hyes
              exact hyes (by simp) _ (s12.trans s3)
theorem ok_need_day (T : Tx K mg) : Ok P w K mg base 2 "need_day" ["thing"] (spNeedDay K) := by
  refine Ok.mk' T.G_need_day T.F_need_day (fun _ _ _ _ _ _ us hl => match us, hl with | [_], _ => rfl) sc_need_day (fun vs H Q E h => ?_) (fun cdv A outer s H vs Q E hr h => ?_)
  · obtain ⟨v, d, rfl, hd, q1, q2⟩ := h
    rfl
  · obtain ⟨v, d, rfl, hd, q1, q2⟩ := h
    refine ⟨(tIfS (tNot (tB (tCall (spIsNum K) [] E (tCons (tVar 0) (tCons (tC (.int 0)) (tCons (tC (.int 10000)) tNil)))))) (tRz K E "BadDay") tNext), (pss_one (ps_if (pt_not (pt_val (pe_f (ok_is_number T) hr (pnx (L2N.takes_of rfl rfl rfl rfl)) (pa_cons (pv 0) (pa_cons pe_int (pa_cons (pe_gi T.I_LAST_DAY) pa_nil)))))) (pss_one (ps_rz T.X_BadDay (L2N.takes_of rfl rfl rfl rfl))) pss_nil)), ?_⟩
    walk_at "0"
    walk_at "g"
    refine ⟨v, d, 0, 10000, rfl, hd, ?_⟩
    walk_at "g"
    cases h : isNum d 0 10000 with
    | true =>
      walk_at "g"
      exact q1 h
    | false =>
      walk_at "g"
      exact q2 h
theorem ok_rules_on (T : Tx K mg) : Ok P w K mg base 15 "rules_on" ["course", "day"] (spRulesOn K) := by
  refine Ok.mk' T.G_rules_on T.F_rules_on (fun _ _ _ _ _ _ us hl => match us, hl with | [_, _], _ => rfl) sc_rules_on (fun vs H Q E h => ?_) (fun cdv A outer s H vs Q E hr h => ?_)
  · obtain ⟨v, u, d, e, rfl, hd, hu, sh, q1, q2, q3⟩ := h
    rfl
  · obtain ⟨v, u, d, e, rfl, hd, hu, sh, q1, q2, q3⟩ := h
    refine ⟨(tSeq (tDrop (tCall (spNeedCourse K) [] E (tCons (tVar 0) tNil)))
      (tSeq (tDrop (tCall (spNeedDay K) [] E (tCons (tVar 1) tNil)))
      (tSeq (tAsg (tTup tNil) (gName 2))
      (tSeq (tFor (iTup K (tVar 0)) (gTup K 2 (gCons (gName 3) (gCons (gName 4) gNil))) (tIfS (tTest (tOp oLe (tVar 3) (tVar 1))) (tAsg (tVar 4) (gName 2)) tNext))
      (tRet (tVar 2)))))), (pss_cons (ps_expr (pe_f (ok_need_course T) hr (pnx (L2N.takes_of rfl rfl rfl rfl)) (pa_cons (pv 0) pa_nil)))
      (pss_cons (ps_expr (pe_f (ok_need_day T) hr (pnx (L2N.takes_of rfl rfl rfl rfl)) (pa_cons (pv 1) pa_nil)))
      (pss_cons (ps_set (i := 2) sc_rules_on.nd rfl (by first | exact Or.inl rfl | exact Or.inr rfl) (pe_tup pa_nil))
      (pss_cons (ps_for (passes_of rfl) rfl (pi_tup (pv 0)) (pg_tup (by rfl) (pgs_cons (pg_name (i := 3) sc_rules_on.nd rfl (by first | exact Or.inl rfl | exact Or.inr rfl)) (pgs_cons (pg_name (i := 4) sc_rules_on.nd rfl (by first | exact Or.inl rfl | exact Or.inr rfl)) pgs_nil))) (pss_one (ps_if (pt_cmpR op_le (pv 3) (pv 1) (nomark _)) (pss_one (ps_set (i := 2) sc_rules_on.nd rfl (by first | exact Or.inl rfl | exact Or.inr rfl) (pv 4))) pss_nil)))
      (pss_one (ps_ret (pv 2))))))), ?_⟩
    walk_at "0"
    walk_at "g"
    refine ⟨v, d, rfl, hd, sh, fun hC H1 s1 => ?_, q2⟩
    walk_at "g"
    refine ⟨u, e, rfl, dp_s s1 hu, fun hN => ?_, fun hN => q3 hC hN _ s1⟩
    obtain ⟨ds, rfl, hl1, hl8, hst, hup⟩ := isCourse_inv hC
    obtain ⟨day, rfl, _⟩ := isNum_int hN
    have qq := q1 ds day rfl rfl hC hN
    cases hu
    walk_at "g"
    refine ⟨sz (by simp), fun p np => ?_⟩
    have s2 : Same H1 (upd H1 p (.tup [])) := Same.new np
    have hp2 : Dp K (upd H1 p (.tup [])) (.ref p) (.tuple []) := .tup (tupOf upd_same) .nil
    generalize upd H1 p (.tup []) = H2 at *
    have s12 := s1.trans s2
    obtain ⟨a, xs, rfl, hx, hxs⟩ := dp_tuple (dp_s s12 hd)
    have hxl := dpAll_len hxs
    walk_at "g"
    refine ⟨⟨xs, hx⟩, ?_⟩
    refine for_go walk_tup (fun i σ H' => ∃ (fv : V) (x3 x4 : Option V), σ = [some (.ref a), some (.int day), some fv, x3, x4] ∧ Same H2 H' ∧ Dp K H' fv (rulesOn day (.tuple []) (ds.take i))) ⟨.ref p, _, _, rfl, Same.refl _, hp2⟩ (fun _ _ H' _ ⟨_, _, _, _, h, _⟩ => tup_s h hx) ?_ ?_
    · rintro i x σ H3 H3' hi ⟨fv, x3, x4, rfl, s3, hfv⟩ ⟨rfl, hxi⟩
      obtain ⟨e, he, hde⟩ := dpAll_getV hxs hxi
      obtain ⟨b, r, rfl, b0, b1, hr'⟩ := isStep_inv (hst e (List.mem_of_getElem? he))
      have hde3 := dp_s s3 hde
      obtain ⟨a2, ys, rfl, hy, hys⟩ := dp_tuple hde3
      cases hys with
      | cons hy1 hys =>
      cases hys with
      | cons hy2 hys =>
      cases hys
      cases hy1
      refine w_gtup hy rfl ?_
      walk_at "g"
      have et : rulesOn day (.tuple []) (ds.take (i + 1)) = if b ≤ day then .tuple r else rulesOn day (.tuple []) (ds.take i) := by
        rw [List.take_add_one, he]
        exact rulesOn_snoc day _ _ _
      refine if_b (fun h => ?_) (fun h => ?_)
      · walk_at "g"
        refine ⟨_, _, _, rfl, s3, ?_⟩
        rw [et, if_pos (of_decide_eq_true h)]
        exact hy2
      · walk_at "g"
        refine ⟨_, _, _, rfl, s3, ?_⟩
        rw [et, if_neg (of_decide_eq_false h)]
        exact hfv
    · rintro σ H3 ⟨fv, x3, x4, rfl, s3, hfv⟩
      walk_at "g"
      rw [List.take_of_length_le (by omega)] at hfv
      exact qq fv H3 (s12.trans s3) hfv
theorem ok_day_of (T : Tx K mg) : Ok P w K mg base 15 "day_of" ["course", "deal", "user"] (spDayOf K) := by
  refine Ok.mk' T.G_day_of T.F_day_of (fun _ _ _ _ _ _ us hl => match us, hl with | [_, _, _], _ => rfl) sc_day_of (fun vs H Q E h => ?_) (fun cdv A outer s H vs Q E hr h => ?_)
  · obtain ⟨v, w', u, d, dl, e, rfl, hd, hw, hu, sh, q1, q2, q3, q4⟩ := h
    rfl
  · obtain ⟨v, w', u, d, dl, e, rfl, hd, hw, hu, sh, q1, q2, q3, q4⟩ := h
    refine ⟨(tSeq (tDrop (tCall (spNeedCourse K) [] E (tCons (tVar 0) tNil)))
      (tSeq (tDrop (tCall (spNeedDeal K) [] E (tCons (tVar 1) tNil)))
      (tSeq (tDrop (tCall (spNeedUser K) [] E (tCons (tVar 2) tNil)))
      (tSeq (tFor (iTup K (tVar 0)) (gTup K 2 (gCons (gName 3) (gCons (gName 4) gNil))) (tIfS (tB (tCall (spLets K) [] E (tCons (tVar 4) (tCons (tVar 1) (tCons (tVar 2) tNil))))) (tRet (tVar 3)) tNext))
      (tRet (tC .non)))))), (pss_cons (ps_expr (pe_f (ok_need_course T) hr (pnx (L2N.takes_of rfl rfl rfl rfl)) (pa_cons (pv 0) pa_nil)))
      (pss_cons (ps_expr (pe_f (ok_need_deal T) hr (pnx (L2N.takes_of rfl rfl rfl rfl)) (pa_cons (pv 1) pa_nil)))
      (pss_cons (ps_expr (pe_f (ok_need_user T) hr (pnx (L2N.takes_of rfl rfl rfl rfl)) (pa_cons (pv 2) pa_nil)))
      (pss_cons (ps_for (passes_of rfl) rfl (pi_tup (pv 0)) (pg_tup (by rfl) (pgs_cons (pg_name (i := 3) sc_day_of.nd rfl (by first | exact Or.inl rfl | exact Or.inr rfl)) (pgs_cons (pg_name (i := 4) sc_day_of.nd rfl (by first | exact Or.inl rfl | exact Or.inr rfl)) pgs_nil))) (pss_one (ps_if (pt_val (pe_f (ok_lets T) hr (pnx (L2N.takes_of rfl rfl rfl rfl)) (pa_cons (pv 4) (pa_cons (pv 1) (pa_cons (pv 2) pa_nil))))) (pss_one (ps_ret (pv 3))) pss_nil)))
      (pss_one (ps_ret pe_non)))))), ?_⟩
    walk_at "0"
    walk_at "g"
    refine ⟨v, d, rfl, hd, sh, fun hC H1 s1 => ?_, q2⟩
    walk_at "g"
    refine ⟨w', dl, rfl, dp_s s1 hw, fun hD => ?_, fun hD => q3 hC hD _ s1⟩
    walk_at "g"
    refine ⟨u, e, rfl, dp_s s1 hu, fun hU => ?_, fun hU => q4 hC hD hU _ s1⟩
    obtain ⟨ds, rfl, hl1, hl8, hst, hup⟩ := isCourse_inv hC
    obtain ⟨s', t', rfl, s0, s1', t0, t1, o2, o5⟩ := isDeal_is hD
    obtain ⟨n, l, p, rfl, _⟩ := isUser_is hU
    have qq := q1 ds s' t' n l p rfl rfl rfl hC hD hU
    obtain ⟨a, xs, rfl, hx, hxs⟩ := dp_tuple (dp_s s1 hd)
    have hxl := dpAll_len hxs
    have hw1 := dp_s s1 hw
    have hu1 := dp_s s1 hu
    walk_at "g"
    refine ⟨⟨xs, hx⟩, ?_⟩
    refine for_go walk_tup (fun i σ H' => ∃ (x3 x4 : Option V), σ = [some (.ref a), some w', some u, x3, x4] ∧ Same H1 H' ∧ ∀ y ∈ ds.take i, decide ((n * s' + t') % 100 < shareD (rulesD y) l p) = false) ⟨_, _, rfl, Same.refl _, fun _ h => by simp at h⟩ (fun _ _ H' _ ⟨_, _, _, h, _⟩ => tup_s h hx) ?_ ?_
    · rintro i x σ H3 H3' hi ⟨x3, x4, rfl, s3, hall⟩ ⟨rfl, hxi⟩
      obtain ⟨e, he, hde⟩ := dpAll_getV hxs hxi
      have hm := List.mem_of_getElem? he
      obtain ⟨b, r, rfl, b0, b1, hr'⟩ := isStep_inv (hst e hm)
      have hde3 := dp_s s3 hde
      obtain ⟨a2, ys, rfl, hy, hys⟩ := dp_tuple hde3
      cases hys with
      | cons hy1 hys =>
      cases hys with
      | cons hy2 hys =>
      cases hys
      cases hy1
      refine w_gtup hy rfl ?_
      walk_at "g"
      refine ⟨_, w', u, r, s', t', n, l, p, rfl, hy2, okD_mem (okD_mem sh hm) (by simp), hr', dp_s s3 hw1, s0, s1', dp_s s3 hu1, fun H4 s4 => ?_⟩
      walk_at "g"
      have eb : decide ((n * s' + t') % 100 < shareD (rulesD (.tuple [.int b, .tuple r])) l p) = decide ((n * s' + t') % 100 < shareL r l p) := rfl
      cases hb : decide ((n * s' + t') % 100 < shareL r l p) with
      | true =>
        walk_at "g"
        have ef : dayOfL ds s' t' n l p = some (.tuple [.int b, .tuple r]) := findP_at he (eb.trans hb) hall
        rw [ef] at qq
        exact qq _ ((s1.trans s3).trans s4)
      | false =>
        walk_at "g"
        refine ⟨s3.trans s4, fun y hy => ?_⟩
        rw [List.take_add_one, he] at hy
        rcases List.mem_append.mp hy with hy | hy
        · exact hall y hy
        · have ey : y = .tuple [.int b, .tuple r] := by simpa using hy
          subst ey
          exact eb.trans hb
    · rintro σ H3 ⟨x3, x4, rfl, s3, hall⟩
      walk_at "g"
      rw [List.take_of_length_le (by omega)] at hall
      have ef : dayOfL ds s' t' n l p = none := findP_no hall
      rw [ef] at qq
      exact qq _ (s1.trans s3)
theorem ok_lost (T : Tx K mg) : Ok P w K mg base 15 "lost" ["course", "deal"] (spLost K) := by
  refine Ok.mk' T.G_lost T.F_lost (fun _ _ _ _ _ _ us hl => match us, hl with | [_, _], _ => rfl) sc_lost (fun vs H Q E h => ?_) (fun cdv A outer s H vs Q E hr h => ?_)
  · obtain ⟨v, w', d, dl, rfl, hd, hw, sh, q1, q2, q3⟩ := h
    rfl
  · obtain ⟨v, w', d, dl, rfl, hd, hw, sh, q1, q2, q3⟩ := h
    refine ⟨(tSeq (tDrop (tCall (spNeedCourse K) [] E (tCons (tVar 0) tNil)))
      (tSeq (tDrop (tCall (spNeedDeal K) [] E (tCons (tVar 1) tNil)))
      (tSeq (tFor (RZ.iZipA K (tCons (tVar 0) (tCons (tSl (rSlA K) (tVar 0) (tPart (tC (.int 1))) tNoPart) tNil))) (gTup K 2 (gCons (gTup K 2 (gCons (gName 2) (gCons (gName 3) gNil))) (gCons (gTup K 2 (gCons (gName 4) (gCons (gName 5) gNil))) gNil))) (tSeq (tAsg (tCall (spLoserOf K) [] E (tCons (tVar 3) (tCons (tVar 5) (tCons (tVar 1) tNil)))) (gName 6))
      (tIfS (tTest (tOp oNotN (tVar 6) (tC .non))) (tRet (tTup (tCons (tVar 4) (tCons (tVar 6) tNil)))) tNext)))
      (tRet (tC .non))))), (pss_cons (ps_expr (pe_f (ok_need_course T) hr (pnx (L2N.takes_of rfl rfl rfl rfl)) (pa_cons (pv 0) pa_nil)))
      (pss_cons (ps_expr (pe_f (ok_need_deal T) hr (pnx (L2N.takes_of rfl rfl rfl rfl)) (pa_cons (pv 1) pa_nil)))
      (pss_cons (ps_for (passes_of rfl) rfl (RZ.pi_zipA (by rfl) T.Z_zip (pa_cons (pv 0) (pa_cons (pe_slice sl_tupA (pv 0) (po_some pe_int) po_none) pa_nil))) (pg_tup (by rfl) (pgs_cons (pg_tup (by rfl) (pgs_cons (pg_name (i := 2) sc_lost.nd rfl (by first | exact Or.inl rfl | exact Or.inr rfl)) (pgs_cons (pg_name (i := 3) sc_lost.nd rfl (by first | exact Or.inl rfl | exact Or.inr rfl)) pgs_nil))) (pgs_cons (pg_tup (by rfl) (pgs_cons (pg_name (i := 4) sc_lost.nd rfl (by first | exact Or.inl rfl | exact Or.inr rfl)) (pgs_cons (pg_name (i := 5) sc_lost.nd rfl (by first | exact Or.inl rfl | exact Or.inr rfl)) pgs_nil))) pgs_nil))) (pss_cons (ps_set (i := 6) sc_lost.nd rfl (by first | exact Or.inl rfl | exact Or.inr rfl) (pe_f (ok_loser_of T) hr (pnx (L2N.takes_of rfl rfl rfl rfl)) (pa_cons (pv 3) (pa_cons (pv 5) (pa_cons (pv 1) pa_nil)))))
      (pss_one (ps_if (pt_cmpR op_notN (pv 6) pe_non (nomark _)) (pss_one (ps_ret (pe_tup (pa_cons (pv 4) (pa_cons (pv 6) pa_nil))))) pss_nil))))
      (pss_one (ps_ret pe_non))))), ?_⟩
    walk_at "0"
    walk_at "g"
    refine ⟨v, d, rfl, hd, sh, fun hC H1 s1 => ?_, q2⟩
    walk_at "g"
    refine ⟨w', dl, rfl, dp_s s1 hw, fun hD => ?_, fun hD => q3 hC hD _ s1⟩
    obtain ⟨ds, rfl, hl1, hl8, hst, hup⟩ := isCourse_inv hC
    obtain ⟨s', t', rfl, s0, s1', t0, t1, o2, o5⟩ := isDeal_is hD
    have qq := q1 ds s' t' rfl rfl hC hD
    have hd1 := dp_s s1 hd
    have hw1 := dp_s s1 hw
    obtain ⟨a, xs, rfl, hx, hxs⟩ := dp_tuple hd1
    have hxl := dpAll_len hxs
    walk_at "g"
    refine w_slFrom (k := 1) hd1 fun u2 H2 s2 hu2 => ?_
    walk_at "g"
    obtain ⟨b2, ys, rfl, hy, hys⟩ := dp_tuple hu2
    have hyl := dpAll_len hys
    rw [List.length_drop] at hyl
    have hx2 := tup_s s2 hx
    have hxs2 := dps_s s2 hxs
    have hw2 := dp_s s2 hw1
    have s12 := s1.trans s2
    refine ⟨a, b2, _, _, rfl, .inr ⟨hx2, hy, ?_⟩⟩
    refine for_go (walk_zipT (m := ds.length - 1) (by omega)) (fun i σ H' => (∃ x2 x3 x4 x5 x6, σ = [some (.ref a), some w', x2, x3, x4, x5, x6]) ∧ Same H2 H' ∧ lostL s' t' ds = lostL s' t' (ds.drop i)) ⟨⟨_, _, _, _, _, rfl⟩, Same.refl _, rfl⟩ (fun _ _ H' _ h => ⟨tup_s h.2.1 hx2, tup_s h.2.1 hy⟩) ?_ ?_
    · rintro i x σ H3 H3' hi ⟨⟨x2, x3, x4, x5, x6, rfl⟩, s3, hall⟩ ⟨T', y1, y2, rfl, nT, rfl, e1, e2⟩
      dsimp only at e1 e2
      obtain ⟨c1, hc1, hd1⟩ := dpAll_getV hxs2 e1
      obtain ⟨c2, hc2, hd2⟩ := dpAll_getV hys e2
      rw [List.getElem?_drop, Nat.add_comm] at hc2
      have hm1 := List.mem_of_getElem? hc1
      have hm2 := List.mem_of_getElem? hc2
      obtain ⟨p1, r1, rfl, _, _, hr1⟩ := isStep_inv (hst c1 hm1)
      obtain ⟨p2, r2, rfl, _, _, hr2⟩ := isStep_inv (hst c2 hm2)
      have sN : Same H3 (upd H3 T' (.tup [y1, y2])) := Same.new nT
      have s3N := s3.trans sN
      have hat := lostL_at (s := s') (t := t') hc1 hc2
      obtain ⟨a1, ys1, rfl, hy1, hys1⟩ := dp_tuple (dp_s s3N hd1)
      obtain ⟨a2, ys2, rfl, hy2, hys2⟩ := dp_tuple (dp_s s3N hd2)
      cases hys1 with
      | cons hz1 hys1 =>
      cases hys1 with
      | cons hz2 hys1 =>
      cases hys1
      cases hz1
      cases hys2 with
      | cons hz3 hys2 =>
      cases hys2 with
      | cons hz4 hys2 =>
      cases hys2
      cases hz3
      refine w_gtup (tupOf upd_same) rfl ?_
      walk_at "g"
      refine w_gtup hy1 rfl ?_
      walk_at "g"
      refine w_gtup hy2 rfl ?_
      walk_at "g"
      refine ⟨_, _, w', r1, r2, s', t', rfl, hz2, hz4, okD_mem (okD_mem sh hm1) (by simp), okD_mem (okD_mem sh hm2) (by simp), hr1, hr2, dp_s s3N hw2, s0, s1', fun u H4 s4 hu => ?_⟩
      walk_at "g"
      have hat : lostL s' t' (ds.drop i) = match loserL r1 r2 s' t' with
        | some u => some (.tuple [.int p2, u])
        | none => lostL s' t' (ds.drop (i + 1)) := hat
      cases hlo : loserL r1 r2 s' t' with
      | none =>
        rw [hlo] at hu hat
        cases hu
        walk_at "g"
        exact ⟨⟨_, _, _, _, _, rfl⟩, s3N.trans s4, hall.trans hat⟩
      | some ud' =>
        rw [hlo] at hu hat
        have hu : Dp K H4 u ud' := hu
        obtain ⟨n, k, hn, hk, rfl⟩ := usersL_mem (List.mem_of_find?_eq_some hlo)
        obtain ⟨fa, fxs, rfl, _, _⟩ := dp_tuple hu
        walk_at "g"
        refine ⟨sz (by simp), fun t5 nt5 => ?_⟩
        refine qq _ _ (((s12.trans s3N).trans s4).trans (Same.new nt5)) ?_
        rw [hall, hat]
        exact .tup (tupOf upd_same) (.cons (.int p2) (.cons (dp_s (Same.new nt5) hu) .nil))
    · rintro σ H3 ⟨⟨x2, x3, x4, x5, x6, rfl⟩, s3, hall⟩
      walk_at "g"
      refine qq _ _ (s12.trans s3) ?_
      have hlast : lostL s' t' (ds.drop (ds.length - 1)) = none := by
        rw [List.drop_eq_getElem_cons (show ds.length - 1 < ds.length by omega), List.drop_of_length_le (by omega)]
        rfl
      rw [hall, hlast]
      exact .non
theorem ok__law_cell (T : Tx K mg) : Ok P w K mg base 1 "_law_cell" ["script", "k"] (spCell K) := by
  refine Ok.mk' T.G__law_cell T.F__law_cell (fun _ _ _ _ _ _ us hl => match us, hl with | [_, _], _ => rfl) sc__law_cell (fun vs H Q E h => ?_) (fun cdv A outer s H vs Q E hr h => ?_)
  · obtain ⟨a, k, ns, rfl, hS, hl, hk, hk2, q⟩ := h
    rfl
  · obtain ⟨a, k, ns, rfl, hS, hl, hk, hk2, q⟩ := h
    refine ⟨(tSeq (tIfS (tTest (tOp (rEqD K) (tVar 0) (tLst tNil))) (tRet (tOp oMul (tVar 1) (tC (.int 7919)))) tNext)
      (tRet (tOp oAdd (tOp (rIxL K) (tVar 0) (tOp oMod (tVar 1) (tCB (cLen K) (tCons (tVar 0) tNil)))) (tOp oMul (tOp oDiv (tVar 1) (tCB (cLen K) (tCons (tVar 0) tNil))) (tC (.int 104729)))))), (pss_cons (ps_if (pt_cmpR (op_eqD hr.units) (pv 0) (pe_lst pa_nil) (nomark _)) (pss_one (ps_ret (pe_op op_mul (pv 1) pe_int))) pss_nil)
      (pss_one (ps_ret (pe_op op_add (pe_ix ix_list (pv 0) (pe_op op_mod (pv 1) (pe_callB call_len (by rfl) T.Z_len (by decide +kernel) (pa_cons (pv 0) pa_nil))) (fun _ _ => rfl)) (pe_op op_mul (pe_op op_fdivW (pv 1) (pe_callB call_len (by rfl) T.Z_len (by decide +kernel) (pa_cons (pv 0) pa_nil))) pe_int))))), ?_⟩
    walk_at "0"
    walk_at "g"
    refine ⟨Nat.zero_le _, fun p np => ?_⟩
    have s1 : Same H (upd H p (.lst [])) := Same.new np
    refine w_eqD (dp_ints (s1.seq hS)) (.lst (lstOf upd_same) .nil) (shaped_ints ns) (by rfl) ?_
    walk_at "g"
    refine if_b (fun h => ?_) (fun h => ?_)
    · walk_at "g"
      refine w_I (.inr ⟨by decide, by decide⟩) ?_
      exact q _ _ s1
    · have hn : 0 < ns.length := by
        cases ns with
        | nil => simp [PyData.eqv, PyData.eqvAll] at h
        | cons x r => simp
      walk_at "g"
      refine w_lenL (s1.seq hS) ?_
      simp only [List.length_map]
      refine w_I (by omega) ?_
      obtain ⟨z, hz⟩ := atI_ints (ns := ns) (j := k % (ns.length : Nat)) (Int.emod_nonneg _ (by omega)) (Int.emod_lt_of_pos _ (by omega))
      refine w_ixL (s1.seq hS) hz ?_
      walk_at "g"
      refine w_lenL (s1.seq hS) ?_
      simp only [List.length_map]
      refine w_I (divW (by omega) (by omega)) ?_
      walk_at "g"
      refine w_I (.inr ⟨by decide, by decide⟩) ?_
      walk_at "g"
      exact q _ _ s1
theorem ok__law_drawn (T : Tx K mg) : Ok P w K mg base 1 "_law_drawn" ["cell", "k"] (spDrawn) := by
  refine Ok.mk' T.G__law_drawn T.F__law_drawn (fun _ _ _ _ _ _ us hl => match us, hl with | [_, _], _ => rfl) sc__law_drawn (fun vs H Q E h => ?_) (fun cdv A outer s H vs Q E hr h => ?_)
  · obtain ⟨c, k, rfl, q⟩ := h
    rfl
  · obtain ⟨c, k, rfl, q⟩ := h
    refine ⟨(tSeq (tAsg (tOp oMod (tOp oAdd (tOp oMul (tVar 0) (tC (.int 6364136223846793005))) (tOp oMul (tOp oAdd (tVar 1) (tC (.int 1))) (tC (.int 1442695040888963407)))) (tC (.int 340282366920938463463374607431768211507))) (gName 2))
      (tSeq (tAsg (tOp oMod (tOp oMulW (tVar 2) (tVar 2)) (tC (.int 340282366920938463463374607431768211297))) (gName 2))
      (tSeq (tAsg (tOp oMulW (tOp oMulW (tOp oAdd (tOp oMod (tVar 2) (tC (.int 18446744073709551557))) (tC (.int 1))) (tOp oAdd (tOp oDiv (tVar 2) (tC (.int 18446744073709551557))) (tC (.int 1)))) (tVar 2)) (gName 2))
      (tRet (tOp oMod (tVar 2) (tC (.int 340282366920938463463374607431768211507))))))), (pss_cons (ps_set (i := 2) sc__law_drawn.nd rfl (by first | exact Or.inl rfl | exact Or.inr rfl) (pe_op op_mod (pe_op op_add (pe_op op_mul (pv 0) pe_int) (pe_op op_mul (pe_op op_add (pv 1) pe_int) pe_int)) pe_int))
      (pss_cons (ps_set (i := 2) sc__law_drawn.nd rfl (by first | exact Or.inl rfl | exact Or.inr rfl) (pe_op op_mod (pe_op op_mulW (pv 2) (pv 2)) pe_int))
      (pss_cons (ps_set (i := 2) sc__law_drawn.nd rfl (by first | exact Or.inl rfl | exact Or.inr rfl) (pe_op op_mulW (pe_op op_mulW (pe_op op_add (pe_op op_mod (pv 2) pe_int) pe_int) (pe_op op_add (pe_op op_fdivW (pv 2) pe_int) pe_int)) (pv 2)))
      (pss_one (ps_ret (pe_op op_mod (pv 2) pe_int)))))), ?_⟩
    walk_at "0"
    walk_at "g"
    refine w_I (.inr ⟨by decide, by decide⟩) ?_
    walk_at "g"
    refine w_I (.inr ⟨by decide, by decide⟩) ?_
    walk_at "g"
    refine w_I (by decide) ?_
    generalize hm : (c * 6364136223846793005 + (k + 1) * 1442695040888963407) % 340282366920938463463374607431768211507 = m
    have m0 : 0 ≤ m := by
      rw [← hm]
      exact Int.emod_nonneg _ (by decide)
    have m1 : m < 340282366920938463463374607431768211507 := by
      rw [← hm]
      exact Int.emod_lt_of_pos _ (by decide)
    walk_at "g"
    refine w_I (mulW m0 (by omega) m0 (by omega)) ?_
    walk_at "g"
    refine w_I (by decide) ?_
    generalize hn : m * m % 340282366920938463463374607431768211297 = n
    have n0 : 0 ≤ n := by
      rw [← hn]
      exact Int.emod_nonneg _ (by decide)
    have n1 : n < 340282366920938463463374607431768211297 := by
      rw [← hn]
      exact Int.emod_lt_of_pos _ (by decide)
    walk_at "g"
    refine w_I (by decide) ?_
    generalize ha : n % 18446744073709551557 = a
    have a0 : 0 ≤ a := by
      rw [← ha]
      exact Int.emod_nonneg _ (by decide)
    have a1 : a < 18446744073709551557 := by
      rw [← ha]
      exact Int.emod_lt_of_pos _ (by decide)
    walk_at "g"
    refine w_I (divW (by decide) (by decide)) ?_
    generalize hb : n / 18446744073709551557 = b
    have b0 : 0 ≤ b := by
      rw [← hb]
      exact Int.ediv_nonneg n0 (by decide)
    have b1 : b ≤ n := by
      rw [← hb]
      exact Int.ediv_le_self _ n0
    walk_at "g"
    refine w_I (mulW (by omega) (by omega) (by omega) (by omega)) ?_
    have c1 : 0 ≤ (a + 1) * (b + 1) := Int.mul_nonneg (by omega) (by omega)
    have c2 : (a + 1) * (b + 1) ≤ 18446744073709551557 * 340282366920938463463374607431768211297 := Int.mul_le_mul (by omega) (by omega) (by omega) (by decide)
    generalize (a + 1) * (b + 1) = c' at c1 c2
    walk_at "g"
    refine w_I (mulW c1 (by omega) (by omega) (by omega)) ?_
    walk_at "g"
    refine w_I (by decide) ?_
    exact q _ (Int.emod_nonneg _ (by decide))
theorem ok__law_roll (T : Tx K mg) : Ok P w K mg base 2 "_law_roll" ["dice", "many"] (spRoll) := by
  refine Ok.mk' T.G__law_roll T.F__law_roll (fun _ _ _ _ _ _ us hl => match us, hl with | [_, _], _ => rfl) sc__law_roll (fun vs H Q E h => ?_) (fun cdv A outer s H vs Q E hr h => ?_)
  · obtain ⟨a, m, rfl, hd, m0, m1, q⟩ := h
    rfl
  · obtain ⟨a, m, rfl, hd, m0, m1, q⟩ := h
    refine ⟨(tSeq (tIfS (tTest (tOp oGe (tOp (rIxL K) (tVar 0) (tC (.int 0))) (tOp oPow (tC (.int 10)) (tC (.int 18))))) (tSeq (tAsg (tOp oMod (tOp (rIxL K) (tVar 0) (tC (.int 0))) (tVar 1)) (gName 2))
      (tSeq (tAsg (tOp oDiv (tOp (rIxL K) (tVar 0) (tC (.int 0))) (tVar 1)) (gSub (tVar 0) (tC (.int 0)) rSetL))
      (tRet (tVar 2)))) tNext)
      (tSeq (tAsg (tOp oAdd (tOp (rIxL K) (tVar 0) (tC (.int 1))) (tC (.int 1))) (gSub (tVar 0) (tC (.int 1)) rSetL))
      (tRet (tOp oMod (tOp oDiv (tCall (spDrawn) [] E (tCons (tOp (rIxL K) (tVar 0) (tC (.int 0))) (tCons (tOp (rIxL K) (tVar 0) (tC (.int 1))) tNil))) (tC (.int 8))) (tVar 1))))), (pss_cons (ps_if (pt_cmpR op_ge (pe_ix ix_list (pv 0) pe_int (fun _ _ => rfl)) (pe_op op_pow pe_int pe_int) (nomark _)) (pss_cons (ps_set (i := 2) sc__law_roll.nd rfl (by first | exact Or.inl rfl | exact Or.inr rfl) (pe_op op_mod (pe_ix ix_list (pv 0) pe_int (fun _ _ => rfl)) (pv 1)))
      (pss_cons (ps_asg (pe_op op_fdivW (pe_ix ix_list (pv 0) pe_int (fun _ _ => rfl)) (pv 1)) (pg_sub (pv 0) pe_int set_list))
      (pss_one (ps_ret (pv 2))))) pss_nil)
      (pss_cons (ps_asg (pe_op op_add (pe_ix ix_list (pv 0) pe_int (fun _ _ => rfl)) pe_int) (pg_sub (pv 0) pe_int set_list))
      (pss_one (ps_ret (pe_op op_mod (pe_op op_fdivW (pe_f (ok__law_drawn T) hr (pnx (L2N.takes_of rfl rfl rfl rfl)) (pa_cons (pe_ix ix_list (pv 0) pe_int (fun _ _ => rfl)) (pa_cons (pe_ix ix_list (pv 0) pe_int (fun _ _ => rfl)) pa_nil))) pe_int) (pv 1)))))), ?_⟩
    walk_at "0"
    obtain ⟨x, k, hx⟩ := hd
    have hd : Dice H a := ⟨x, k, hx⟩
    walk_at "g"
    refine w_ixL (lstOf hx) (v := .int x) rfl ?_
    walk_at "g"
    refine w_I ⟨by decide, by decide, by decide⟩ ?_
    walk_at "g"
    refine if_b (fun h => ?_) (fun h => ?_)
    · walk_at "g"
      refine w_ixL (lstOf hx) (v := .int x) rfl ?_
      walk_at "g"
      refine w_I m0 ?_
      walk_at "g"
      refine w_ixL (lstOf hx) (v := .int x) rfl ?_
      walk_at "g"
      refine w_I (divW m0 m1) ?_
      walk_at "g"
      refine w_setL hx (j := 0) rfl ?_
      walk_at "g"
      exact q _ _ (Int.emod_nonneg _ (by omega)) (Int.emod_lt_of_pos _ m0) (But.put hd)
    · walk_at "g"
      refine w_ixL (lstOf hx) (v := .int k) rfl ?_
      walk_at "g"
      refine w_setL hx (j := 1) rfl ?_
      walk_at "g"
      have h2 : upd H a (.lst [.int x, .int (k + 1)]) a = some (.lst [.int x, .int (k + 1)]) := upd_same
      refine w_ixL (lstOf h2) (v := .int x) rfl ?_
      walk_at "g"
      refine w_ixL (lstOf h2) (v := .int (k + 1)) rfl ?_
      walk_at "g"
      refine ⟨x, k + 1, rfl, fun z hz => ?_⟩
      walk_at "g"
      refine w_I (divW (by decide) (by decide)) ?_
      walk_at "g"
      refine w_I m0 ?_
      exact q _ _ (Int.emod_nonneg _ (by omega)) (Int.emod_lt_of_pos _ m0) (But.put hd)
theorem ok__law_rounds (T : Tx K mg) : Ok P w K mg base 2 "_law_rounds" ["script", "most"] (spRounds K) := by
  refine Ok.mk' T.G__law_rounds T.F__law_rounds (fun _ _ _ _ _ _ us hl => match us, hl with | [_, _], _ => rfl) sc__law_rounds (fun vs H Q E h => ?_) (fun cdv A outer s H vs Q E hr h => ?_)
  · obtain ⟨a, m, ns, rfl, hS, hl, m0, m1, q⟩ := h
    rfl
  · obtain ⟨a, m, ns, rfl, hS, hl, m0, m1, q⟩ := h
    refine ⟨(tRet (tLc (iRng1 (tCons (tCB cMax2 (tCons (tC (.int 1)) (tCons (tCB cMin2 (tCons (tVar 1) (tCons (tCB (cLen K) (tCons (tVar 0) tNil)) tNil))) tNil))) tNil)) (gName 2) tYes (tLst (tCons (tCall (spCell K) [] E0 (tCons (tVar 0) (tCons (tVar 2) tNil))) (tCons (tC (.int 0)) tNil))) [2])), (pss_one (ps_ret (pe_lc (own := [("k", 2)]) rfl sc__law_rounds.nd (pi_range1 (by rfl) T.Z_range (pa_cons (pe_callB (call_max2 rfl) (by rfl) T.Z_max (by decide +kernel) (pa_cons pe_int (pa_cons (pe_callB (call_min2 rfl) (by rfl) T.Z_min (by decide +kernel) (pa_cons (pv 1) (pa_cons (pe_callB call_len (by rfl) T.Z_len (by decide +kernel) (pa_cons (pv 0) pa_nil)) pa_nil))) pa_nil))) pa_nil)) (blkOk_by (own := [("k", 2)]) (N := ["script", "most", "k"]) (sc := defScope s__law_rounds) (by decide +kernel)) (fun _ _ _ _ _ => (pg_name (i := 2) sc__law_rounds.nd rfl (by first | exact Or.inl rfl | exact Or.inr rfl))) (fun _ _ _ _ _ => pts_nil) (fun _ _ _ _ _ => (pe_lst (pa_cons (pe_f (ok__law_cell T) hr pn0 (pa_cons (pv 0) (pa_cons (pv 2) pa_nil))) (pa_cons pe_int pa_nil))))))), ?_⟩
    walk_at "0"
    walk_at "g"
    refine w_lenL hS ?_
    simp only [List.length_map]
    walk_at "g"
    generalize hj : (if (if (ns.length : Int) < m then (ns.length : Int) else m) > 1 then (if (ns.length : Int) < m then (ns.length : Int) else m) else 1) = j
    have j0 : 1 ≤ j := by
      rw [← hj]
      split <;> omega
    have j1 : j ≤ 10 := by
      rw [← hj]
      split
      · split <;> omega
      · omega
    refine ⟨by omega, by omega, ?_⟩
    refine lc_go walk_range (by omega) (fun D i acc H' => Same H H' ∧ ∃ ds : List Addr, acc = ds.map V.ref ∧ ∀ d ∈ ds, H d = none ∧ d ≠ D ∧ Dice H' d) (fun D hD => ⟨Same.new hD, [], rfl, fun _ h => by cases h⟩) (fun _ _ _ _ _ _ _ => trivial) ?_ ?_
    · rintro D i acc x H' H'' hD hi hacc hH' ⟨sm, ds, rfl, hds⟩ ⟨rfl, rfl⟩
      walk_at "g"
      refine ⟨rfl, ?_⟩
      walk_at "g"
      refine ⟨_, _, ns, rfl, sm.seq hS, hl, by omega, by omega, fun z H2 s2 => ?_⟩
      walk_at "g"
      refine ⟨sz (by simp), fun p np => ?_⟩
      have s3 : Same H2 (upd H2 p (.lst [.int z, .int 0])) := Same.new np
      have hD3 := s3 _ _ (s2 _ _ hH')
      have npD : p ≠ D := (ne_of_none (s2 _ _ hH') np).symm
      have s5 : ∀ b o, H b = some o → upd (upd H2 p (.lst [.int z, .int 0])) D (.lst (ds.map V.ref ++ [.ref p])) b = some o := fun b o e => by
        rw [upd_ne (ne_of_none e hD)]
        exact s3 _ _ (s2 _ _ (sm _ _ e))
      refine lc_nx (by omega) hacc hD3 ⟨s5, ds ++ [p], by simp, fun d hd => ?_⟩
      rcases List.mem_append.mp hd with hd | hd
      · obtain ⟨e1, e2, e3⟩ := hds d hd
        obtain ⟨x, k, e3⟩ := e3
        exact ⟨e1, e2, x, k, by rw [upd_ne e2]; exact s3 _ _ (s2 _ _ e3)⟩
      · cases List.mem_singleton.mp hd
        exact ⟨sm.free (s2.free np), npD, z, 0, by rw [upd_ne npD]; exact upd_same⟩
    · rintro D acc H' hD hH' hl' ⟨sm, ds, rfl, hds⟩
      exact q D ds H' sm hH' hds hD
theorem ok__law_deal (T : Tx K mg) : Ok P w K mg base 3 "_law_deal" ["dice"] (spDeal K) := by
  refine Ok.mk' T.G__law_deal T.F__law_deal (fun _ _ _ _ _ _ us hl => match us, hl with | [_], _ => rfl) sc__law_deal (fun vs H Q E h => ?_) (fun cdv A outer s H vs Q E hr h => ?_)
  · obtain ⟨a, rfl, hd, q⟩ := h
    rfl
  · obtain ⟨a, rfl, hd, q⟩ := h
    refine ⟨(tRet (tTup (tCons (tOp oAdd (tOp oMul (tC (.int 10)) (tCall (spRoll) [] E (tCons (tVar 0) (tCons (tC (.int 10)) tNil)))) (tOp (rIxL K) (tLst (tCons (tC (.int 1)) (tCons (tC (.int 3)) (tCons (tC (.int 7)) (tCons (tC (.int 9)) tNil))))) (tCall (spRoll) [] E (tCons (tVar 0) (tCons (tC (.int 4)) tNil))))) (tCons (tCall (spRoll) [] E (tCons (tVar 0) (tCons (tC (.int 100)) tNil))) tNil)))), (pss_one (ps_ret (pe_tup (pa_cons (pe_op op_add (pe_op op_mul pe_int (pe_f (ok__law_roll T) hr (pnx (L2N.takes_of rfl rfl rfl rfl)) (pa_cons (pv 0) (pa_cons pe_int pa_nil)))) (pe_ix ix_list (pe_lst (pa_cons pe_int (pa_cons pe_int (pa_cons pe_int (pa_cons pe_int pa_nil))))) (pe_f (ok__law_roll T) hr (pnx (L2N.takes_of rfl rfl rfl rfl)) (pa_cons (pv 0) (pa_cons pe_int pa_nil))) (fun _ _ => rfl))) (pa_cons (pe_f (ok__law_roll T) hr (pnx (L2N.takes_of rfl rfl rfl rfl)) (pa_cons (pv 0) (pa_cons pe_int pa_nil))) pa_nil))))), ?_⟩
    walk_at "0"
    walk_at "g"
    refine ⟨a, 10, rfl, hd, by decide, by decide, fun r H1 r0 r1 b1 => ?_⟩
    refine w_I (.inl ⟨by decide, by decide⟩) ?_
    walk_at "g"
    refine ⟨sz (by simp), fun p np => ?_⟩
    have b2 := b1.new (o := .lst [.int 1, .int 3, .int 7, .int 9]) np
    walk_at "g"
    refine ⟨a, 4, rfl, b2.d1, by decide, by decide, fun r2 H2 r20 r21 b3 => ?_⟩
    have hp := b3.kp p _ upd_same (b1.d1.ne np)
    obtain ⟨z, hz, hz2⟩ := atI_four (a := 1) (b := 3) (c := 7) (d := 9) r20 r21
    refine w_ixL (lstOf hp) hz ?_
    walk_at "g"
    refine ⟨a, 100, rfl, b3.d1, by decide, by decide, fun r3 H3 r30 r31 b4 => ?_⟩
    walk_at "g"
    refine ⟨sz (by simp), fun t nt => ?_⟩
    have b5 := (b2.trans b3).trans b4
    exact q t _ _ _ (b5.new nt) (b5.free nt) upd_same (isDeal_mk (by omega) (by omega) (by omega) (by omega) (by omega) (by omega))
theorem ok__law_user (T : Tx K mg) : Ok P w K mg base 3 "_law_user" ["dice"] (spUser K) := by
  refine Ok.mk' T.G__law_user T.F__law_user (fun _ _ _ _ _ _ us hl => match us, hl with | [_], _ => rfl) sc__law_user (fun vs H Q E h => ?_) (fun cdv A outer s H vs Q E hr h => ?_)
  · obtain ⟨a, rfl, hd, q⟩ := h
    rfl
  · obtain ⟨a, rfl, hd, q⟩ := h
    refine ⟨(tSeq (tAsg (tCall (spRoll) [] E (tCons (tVar 0) (tCons (tOp (rIxL K) (tLst (tCons (tC (.int 130)) (tCons (tOp oPow (tC (.int 10)) (tC (.int 6))) (tCons (tOp oAdd (tOp oPow (tC (.int 10)) (tC (.int 12))) (tC (.int 1))) (tCons (tC (.int 130)) tNil))))) (tCall (spRoll) [] E (tCons (tVar 0) (tCons (tC (.int 4)) tNil)))) tNil))) (gName 1))
      (tRet (tTup (tCons (tVar 1) (tCons (tCall (spRoll) [] E (tCons (tVar 0) (tCons (tC (.int 6)) tNil))) (tCons (tCall (spRoll) [] E (tCons (tVar 0) (tCons (tC (.int 4)) tNil))) tNil)))))), (pss_cons (ps_set (i := 1) sc__law_user.nd rfl (by first | exact Or.inl rfl | exact Or.inr rfl) (pe_f (ok__law_roll T) hr (pnx (L2N.takes_of rfl rfl rfl rfl)) (pa_cons (pv 0) (pa_cons (pe_ix ix_list (pe_lst (pa_cons pe_int (pa_cons (pe_op op_pow pe_int pe_int) (pa_cons (pe_op op_add (pe_op op_pow pe_int pe_int) pe_int) (pa_cons pe_int pa_nil))))) (pe_f (ok__law_roll T) hr (pnx (L2N.takes_of rfl rfl rfl rfl)) (pa_cons (pv 0) (pa_cons pe_int pa_nil))) (fun _ _ => rfl)) pa_nil))))
      (pss_one (ps_ret (pe_tup (pa_cons (pv 1) (pa_cons (pe_f (ok__law_roll T) hr (pnx (L2N.takes_of rfl rfl rfl rfl)) (pa_cons (pv 0) (pa_cons pe_int pa_nil))) (pa_cons (pe_f (ok__law_roll T) hr (pnx (L2N.takes_of rfl rfl rfl rfl)) (pa_cons (pv 0) (pa_cons pe_int pa_nil))) pa_nil))))))), ?_⟩
    walk_at "0"
    walk_at "g"
    refine w_I ⟨by decide, by decide, by decide⟩ ?_
    walk_at "g"
    refine w_I ⟨by decide, by decide, by decide⟩ ?_
    walk_at "g"
    refine ⟨sz (by simp), fun p np => ?_⟩
    have b1 := (But.refl hd).new (o := .lst [.int 130, .int (10 ^ 6), .int (10 ^ 12 + 1), .int 130]) np
    walk_at "g"
    refine ⟨a, 4, rfl, b1.d1, by decide, by decide, fun r H1 r0 r1 b2 => ?_⟩
    have hp := b2.kp p _ upd_same (hd.ne np)
    obtain ⟨z, hz, hz2⟩ := atI_four (a := 130) (b := 10 ^ 6) (c := 10 ^ 12 + 1) (d := 130) r0 r1
    refine w_ixL (lstOf hp) hz ?_
    walk_at "g"
    refine ⟨a, z, rfl, b2.d1, by omega, by omega, fun n H2 n0 n1 b3 => ?_⟩
    walk_at "g"
    refine ⟨a, 6, rfl, b3.d1, by decide, by decide, fun l H3 l0 l1 b4 => ?_⟩
    walk_at "g"
    refine ⟨a, 4, rfl, b4.d1, by decide, by decide, fun m H4 m0 m1 b5 => ?_⟩
    walk_at "g"
    refine ⟨sz (by simp), fun t nt => ?_⟩
    have b6 := ((b1.trans b2).trans b3).trans (b4.trans b5)
    exact q t _ _ _ _ (b6.new nt) (b6.free nt) upd_same n0 (by omega) l0 (by omega) m0 (by omega)
theorem ok__law_row (T : Tx K mg) : Ok P w K mg base 3 "_law_row" ["dice", "most"] (spLawRow K) := by
  refine Ok.mk' T.G__law_row T.F__law_row (fun _ _ _ _ _ _ us hl => match us, hl with | [_, _], _ => rfl) sc__law_row (fun vs H Q E h => ?_) (fun cdv A outer s H vs Q E hr h => ?_)
  · obtain ⟨a, m, rfl, hd, m0, m1, q⟩ := h
    rfl
  · obtain ⟨a, m, rfl, hd, m0, m1, q⟩ := h
    refine ⟨(tSeq (tAsg (tLc (iRng1 (tCons (tVar 1) tNil)) (gName 2) (tTest (tOp rEq (tCall (spRoll) [] E0 (tCons (tVar 0) (tCons (tC (.int 2)) tNil))) (tC (.int 0)))) (tVar 2) [2]) (gName 3))
      (tRet (tIf (tTest (tOp (rNeD K) (tVar 3) (tLst tNil))) (tCB (cTuple K) (tCons (tVar 3) tNil)) (tTup (tCons (tCall (spRoll) [] E (tCons (tVar 0) (tCons (tVar 1) tNil))) tNil))))), (pss_cons (ps_setLc (i := 3) (own := [("at", 2)]) rfl sc__law_row.nd rfl rfl (sw_true rfl rfl rfl (by decide +kernel)) (pi_range1 (by rfl) T.Z_range (pa_cons (pv 1) pa_nil)) (blkOk_by (own := [("at", 2)]) (N := ["dice", "most", "at", "found"]) (sc := defScope s__law_row) (by decide +kernel)) (fun _ _ _ _ _ => (pg_name (i := 2) sc__law_row.nd rfl (by first | exact Or.inl rfl | exact Or.inr rfl))) (fun _ _ _ _ _ => (pts_one (pt_cmpR op_eq (pe_f (ok__law_roll T) hr pn0 (pa_cons (pv 0) (pa_cons pe_int pa_nil))) pe_int (nomark _)))) (fun _ _ _ _ _ => (pv 2)))
      (pss_one (ps_ret (pe_ifExp (pt_cmpR (op_neD hr.units) (pv 3) (pe_lst pa_nil) (nomark _)) (pe_callTy call_tuple_of (by rfl) T.Z_tuple (by decide +kernel) (pa_cons (pv 3) pa_nil)) (pe_tup (pa_cons (pe_f (ok__law_roll T) hr (pnx (L2N.takes_of rfl rfl rfl rfl)) (pa_cons (pv 0) (pa_cons (pv 1) pa_nil))) pa_nil)))))), ?_⟩
    walk_at "0"
    walk_at "g"
    refine ⟨by omega, by omega, ?_⟩
    refine lc_dice (K := K) (a := a) walk_range (by omega) (fun i ds => ∃ ns : List Int, ds = ns.map PyData.int ∧ ns.length ≤ i ∧ ns.Pairwise (· < ·) ∧ ∀ j ∈ ns, 0 ≤ j ∧ j < i) hd ⟨[], rfl, Nat.le_refl _, .nil, fun _ h => by cases h⟩ (fun _ _ => trivial) ?_ ?_
    · rintro D i acc x H' H'' hD hi hacc hH' ⟨bb, nD, ds, hds, im, ns, rfl, hl, hp, hr0⟩ ⟨rfl, rfl⟩
      walk_at "g"
      refine ⟨rfl, ?_⟩
      walk_at "g"
      refine ⟨a, 2, rfl, bb.d1, by decide, by decide, fun r H1 r0 r1 b1 => ?_⟩
      walk_at "g"
      refine if_b (fun _ => ?_) (fun _ => ?_)
      · walk_at "g"
        refine lcr_nx (d := .int (0 + (i : Int))) hD (by omega) hacc hH' bb nD hds im b1 (.int _) rfl ⟨ns ++ [0 + (i : Int)], by simp, by simp; omega, ?_, fun j hj => ?_⟩
        · refine List.pairwise_append.mpr ⟨hp, by simp, fun x hx y hy => ?_⟩
          cases List.mem_singleton.mp hy
          have := hr0 x hx
          omega
        · rcases List.mem_append.mp hj with hj | hj
          · have := hr0 j hj
            omega
          · cases List.mem_singleton.mp hj
            omega
      · exact lcr_sk hacc hH' bb nD hds im b1 ⟨ns, rfl, by omega, hp, fun j hj => by have := hr0 j hj; omega⟩
    · rintro D acc ds H1 hD b1 nD hD1 hds im ⟨ns, rfl, hl, hp, hr0⟩
      cases dpAll_some_ints hds
      walk_at "g"
      refine ⟨Nat.zero_le _, fun p np => ?_⟩
      have s1 : Same H1 (upd H1 p (.lst [])) := Same.new np
      refine w_neD (dp_ints (lstOf (s1 _ _ hD1))) (.lst (lstOf upd_same) .nil) (shaped_ints ns) (by rfl) ?_
      generalize upd H1 p (.lst []) = H2 at *
      rw [eqv_nil]
      walk_at "g"
      have b2 := b1.same s1
      cases ns with
      | cons n r =>
        walk_at "g"
        refine ⟨_, _, rfl, .inl ⟨lstOf (s1 _ _ hD1), fun t nt => ?_⟩⟩
        exact q t (n :: r) _ (b2.new nt) (b2.free nt) upd_same (by omega) (isRow_mk (by simp) hp fun i hi => by have := hr0 i hi; omega)
      | nil =>
        walk_at "g"
        refine ⟨a, m, rfl, b2.d1, by omega, by omega, fun r H3 r0 r1 b3 => ?_⟩
        walk_at "g"
        refine ⟨sz (by simp), fun t nt => ?_⟩
        have b4 := b2.trans b3
        exact q t [r] _ (b4.new nt) (b4.free nt) upd_same (by simp) (isRow_mk (by simp) (by simp) fun i hi => by cases List.mem_singleton.mp hi; omega)
theorem okr__law_condition (T : Tx K mg) : ∀ n : Nat, Ok P w K mg base (4 + n) "_law_condition" ["dice", "deep"] (spLCondR K n) := by
  intro n
  induction n with
  | zero =>
    refine (Ok.bot T.G__law_condition T.F__law_condition (fun _ _ _ _ _ _ us hl => match us, hl with | [_, _], _ => rfl)).imp (fun vs H Q E h => ?_)
    obtain ⟨a, k, rfl, k0, hk, hn, hd, q⟩ := h
    omega
  | succ n ih =>
  refine Ok.mk' (k := 4 + n) T.G__law_condition T.F__law_condition (fun _ _ _ _ _ _ us hl => match us, hl with | [_, _], _ => rfl) sc__law_condition (fun vs H Q E h => ?_) (fun cdv A outer s H vs Q E hr h => ?_)
  · obtain ⟨a, k, rfl, k0, hk, hn, hd, q⟩ := h
    rfl
  · obtain ⟨a, k, rfl, k0, hk, hn, hd, q⟩ := h
    refine ⟨(tSeq (tAsg (tCall (spRoll) [] E (tCons (tVar 0) (tCons (tC (.int 7)) tNil))) (gName 2))
      (tSeq (tIfS (tOr (tTest (tOp oLt (tVar 1) (tC (.int 2)))) (tTest (tOp oLt (tVar 2) (tC (.int 3))))) (tSeq (tAsg (tOp (rIxL K) (tLst (tCons (tC (.str "land")) (tCons (tC (.str "plan")) tNil))) (tCall (spRoll) [] E (tCons (tVar 0) (tCons (tC (.int 2)) tNil)))) (gName 3))
      (tRet (tTup (tCons (tVar 3) (tCons (tCall (spLawRow K) [] E (tCons (tVar 0) (tCons (tIf (tTest (tOp rEq (tVar 3) (tC (.str "land")))) (tC (.int 6)) (tC (.int 4))) tNil))) tNil))))) tNext)
      (tSeq (tIfS (tTest (tOp rEq (tVar 2) (tC (.int 3)))) (tRet (tTup (tCons (tC (.str "not")) (tCons (tCall (spLCondR K n) [] E (tCons (tVar 0) (tCons (tOp oSub (tVar 1) (tC (.int 1))) tNil))) tNil)))) tNext)
      (tSeq (tAsg (tOp oAdd (tC (.int 2)) (tOp oMul (tOp oDiv (tCall (spRoll) [] E (tCons (tVar 0) (tCons (tC (.int 3)) tNil))) (tC (.int 2))) (tCB cInt1 (tCons (tOp oLt (tVar 1) (tC (.int 4))) tNil)))) (gName 4))
      (tRet (tOp (rCatT K) (tTup (tCons (tOp (rIxL K) (tLst (tCons (tC (.str "and")) (tCons (tC (.str "or")) tNil))) (tOp oMod (tVar 2) (tC (.int 2)))) tNil)) (tCB (cTuple K) (tCons (tLc (iRng1 (tCons (tVar 4) tNil)) (gName 5) tYes (tCall (spLCondR K n) [] E0 (tCons (tVar 0) (tCons (tOp oSub (tVar 1) (tC (.int 1))) tNil))) [5]) tNil)))))))), (pss_cons (ps_set (i := 2) sc__law_condition.nd rfl (by first | exact Or.inl rfl | exact Or.inr rfl) (pe_f (ok__law_roll T) hr (pnx (L2N.takes_of rfl rfl rfl rfl)) (pa_cons (pv 0) (pa_cons pe_int pa_nil))))
      (pss_cons (ps_if (PW.pt (pw_or (pt_cmpR op_lt (pv 1) pe_int (nomark _)) (pw_or1 (pt_cmpR op_lt (pv 2) pe_int (nomark _))))) (pss_cons (ps_set (i := 3) sc__law_condition.nd rfl (by first | exact Or.inl rfl | exact Or.inr rfl) (pe_ix ix_list (pe_lst (pa_cons pe_str (pa_cons pe_str pa_nil))) (pe_f (ok__law_roll T) hr (pnx (L2N.takes_of rfl rfl rfl rfl)) (pa_cons (pv 0) (pa_cons pe_int pa_nil))) (fun _ _ => rfl)))
      (pss_one (ps_ret (pe_tup (pa_cons (pv 3) (pa_cons (pe_f (ok__law_row T) hr (pnx (L2N.takes_of rfl rfl rfl rfl)) (pa_cons (pv 0) (pa_cons (pe_ifExp (pt_cmpR op_eq (pv 3) pe_str (nomark _)) pe_int pe_int) pa_nil))) pa_nil)))))) pss_nil)
      (pss_cons (ps_if (pt_cmpR op_eq (pv 2) pe_int (nomark _)) (pss_one (ps_ret (pe_tup (pa_cons pe_str (pa_cons (pe_f ih hr (pnx (L2N.takes_of rfl rfl rfl rfl)) (pa_cons (pv 0) (pa_cons (pe_op op_sub (pv 1) pe_int) pa_nil))) pa_nil))))) pss_nil)
      (pss_cons (ps_set (i := 4) sc__law_condition.nd rfl (by first | exact Or.inl rfl | exact Or.inr rfl) (pe_op op_add pe_int (pe_op op_mul (pe_op op_fdivW (pe_f (ok__law_roll T) hr (pnx (L2N.takes_of rfl rfl rfl rfl)) (pa_cons (pv 0) (pa_cons pe_int pa_nil))) pe_int) (pe_callTy call_int1 (by rfl) T.Z_int (by decide +kernel) (pa_cons (pe_cmpR op_lt (pv 1) pe_int (nomark _)) pa_nil)))))
      (pss_one (ps_ret (pe_op op_catT (pe_tup (pa_cons (pe_ix ix_list (pe_lst (pa_cons pe_str (pa_cons pe_str pa_nil))) (pe_op op_mod (pv 2) pe_int) (fun _ _ => rfl)) pa_nil)) (pe_callTy call_tuple_of (by rfl) T.Z_tuple (by decide +kernel) (pa_cons (pe_lc (own := [("turn", 5)]) rfl sc__law_condition.nd (pi_range1 (by rfl) T.Z_range (pa_cons (pv 4) pa_nil)) (blkOk_by (own := [("turn", 5)]) (N := ["dice", "deep", "way", "word", "parts", "turn"]) (sc := defScope s__law_condition) (by decide +kernel)) (fun _ _ _ _ _ => (pg_name (i := 5) sc__law_condition.nd rfl (by first | exact Or.inl rfl | exact Or.inr rfl))) (fun _ _ _ _ _ => pts_nil) (fun _ _ _ _ _ => (pe_f ih hr pn0 (pa_cons (pv 0) (pa_cons (pe_op op_sub (pv 1) pe_int) pa_nil))))) pa_nil))))))))), ?_⟩
    walk_at "0"
    walk_at "g"
    refine ⟨a, 7, rfl, hd, by decide, by decide, fun way H1 w0 w1 b1 => ?_⟩
    walk_at "s"
    refine evt_use (b := decide ((k : Int) < 2) || decide (way < 3)) (evt_or ?_ fun _ H2 s2 => ?_) fun H2 s2 => ?_
    · intro Q' q'
      walk_at "g"
      exact q' _ (Same.refl _)
    · intro Q' q'
      walk_at "g"
      exact q' _ (Same.refl _)
    have b2 := b1.same s2
    refine if_b (fun hc => ?_) (fun hc => ?_)
    · walk_at "g"
      refine ⟨sz (by simp), fun p np => ?_⟩
      have b3 := b2.new (o := .lst [.str "land", .str "plan"]) np
      walk_at "g"
      refine ⟨a, 2, rfl, b3.d1, by decide, by decide, fun r H3 r0 r1 b4 => ?_⟩
      have hp := b4.kp p _ upd_same (b2.d1.ne np)
      obtain ⟨z, hz, hz2⟩ := atI_twoS (a := "land") (b := "plan") r0 r1
      refine w_ixL (lstOf hp) hz ?_
      walk_at "g"
      have bT := b3.trans b4
      by_cases hl : z = "land"
      · refine if_t (decide_eq_true hl) ?_
        walk_at "g"
        refine ⟨a, 6, rfl, bT.d1, by decide, by decide, fun t ns H4 b5 nt ht hln hrow => ?_⟩
        walk_at "g"
        refine ⟨sz (by simp), fun t2 nt2 => ?_⟩
        exact q _ _ _ ((bT.trans b5).new nt2) (.tup (tupOf upd_same) (.cons (.str z) (.cons (.tup (tup_s (Same.new nt2) (tupOf ht)) (dpAll_ints ns)) .nil))) (condG_leaf k0 (.inl ⟨hl, rfl⟩) hln hrow)
      · refine if_f (decide_eq_false hl) ?_
        have hpl : z = "plan" := by
          rcases hz2 with e | e
          · exact absurd e hl
          · exact e
        walk_at "g"
        refine ⟨a, 4, rfl, bT.d1, by decide, by decide, fun t ns H4 b5 nt ht hln hrow => ?_⟩
        walk_at "g"
        refine ⟨sz (by simp), fun t2 nt2 => ?_⟩
        exact q _ _ _ ((bT.trans b5).new nt2) (.tup (tupOf upd_same) (.cons (.str z) (.cons (.tup (tup_s (Same.new nt2) (tupOf ht)) (dpAll_ints ns)) .nil))) (condG_leaf k0 (.inr ⟨hpl, rfl⟩) hln hrow)
    · have hk2 : 2 ≤ k := by
        simp at hc
        omega
      obtain ⟨j, rfl⟩ : ∃ j, k = j + 1 := ⟨k - 1, by omega⟩
      have ej : (((j + 1 : Nat) : Int) - 1) = ((j : Nat) : Int) := by omega
      walk_at "g"
      refine if_b (fun hw => ?_) (fun hw => ?_)
      · walk_at "g"
        rw [ej]
        refine ⟨a, j, rfl, by omega, by omega, by omega, b2.d1, fun v d H3 b3 hv hG => ?_⟩
        walk_at "g"
        refine ⟨sz (by simp), fun t nt => ?_⟩
        exact q _ _ _ ((b2.trans b3).new nt) (.tup (tupOf upd_same) (.cons (.str _) (.cons (dp_s (Same.new nt) hv) .nil))) (condG_node (by omega) strOk_not (by decide +kernel) (by decide +kernel) (.inr ⟨rfl, rfl⟩) fun y hy => by cases List.mem_singleton.mp hy; exact hG)
      · walk_at "g"
        refine ⟨a, 3, rfl, b2.d1, by decide, by decide, fun r H3 r0 r1 b3 => ?_⟩
        walk_at "g"
        refine w_I (divW (by decide) (by decide)) ?_
        walk_at "g"
        refine w_I (.inr (by split <;> exact ⟨by decide, by decide⟩)) ?_
        walk_at "g"
        have b4 := b2.trans b3
        generalize hparts : 2 + r / 2 * (if decide (((j + 1 : Nat) : Int) < 4) = true then 1 else 0) = parts
        have hp2 : 2 ≤ parts ∧ parts ≤ 3 ∧ (j = 3 → parts = 2) := by
          rw [← hparts]
          split
          · rename_i h4
            simp at h4
            omega
          · omega
        refine ⟨sz (by simp), fun p np => ?_⟩
        have b5 := b4.new (o := .lst [.str "and", .str "or"]) np
        have hp5 : upd H3 p (.lst [.str "and", .str "or"]) p = some (.lst [.str "and", .str "or"]) := upd_same
        generalize upd H3 p (.lst [.str "and", .str "or"]) = H5 at *
        walk_at "g"
        refine w_I (by decide) ?_
        obtain ⟨z, hz, hz2⟩ := atI_twoS (r := way % 2) (a := "and") (b := "or") (Int.emod_nonneg _ (by decide)) (Int.emod_lt_of_pos _ (by decide))
        refine w_ixL (lstOf hp5) hz ?_
        walk_at "g"
        refine ⟨sz (by simp), fun p6 np6 => ?_⟩
        have b6 := b5.new (o := .tup [.str z]) np6
        have hp6 : upd H5 p6 (.tup [.str z]) p6 = some (.tup [.str z]) := upd_same
        generalize upd H5 p6 (.tup [.str z]) = H6 at *
        walk_at "g"
        refine ⟨by omega, by omega, ?_⟩
        refine lc_dice (K := K) (a := a) walk_range (by omega) (fun i ds => ds.length = i ∧ ∀ d ∈ ds, CondG j d) b6.d1 ⟨rfl, fun _ h => by cases h⟩ (fun _ _ => trivial) ?_ ?_
        · rintro D i acc x H' H'' hD hi hacc hH' ⟨bb, nD, ds, hds, im, hl, hG⟩ ⟨rfl, rfl⟩
          walk_at "g"
          refine ⟨rfl, ?_⟩
          walk_at "g"
          rw [ej]
          refine ⟨a, j, rfl, by omega, by omega, by omega, bb.d1, fun v d H7 b7 hv hGd => ?_⟩
          refine lcr_nx hD (by omega) hacc hH' bb nD hds im b7 hv hGd.im ⟨by simp [hl], fun e he => ?_⟩
          rcases List.mem_append.mp he with he | he
          · exact hG e he
          · cases List.mem_singleton.mp he
            exact hGd
        · rintro D acc ds H7 hD b7 nD hD7 hds im ⟨hl, hG⟩
          walk_at "g"
          refine ⟨_, _, rfl, .inl ⟨lstOf hD7, fun t nt => ?_⟩⟩
          have b8 := (b6.trans b7).new (o := .tup acc) nt
          have hp8 : SqT K (upd H7 t (.tup acc)) p6 [.str z] := tup_s (Same.new nt) (b7.tup (tupOf hp6))
          have hds8 := dps_s (Same.new (o := .tup acc) nt) hds
          have ht8 : upd H7 t (.tup acc) t = some (.tup acc) := upd_same
          generalize upd H7 t (.tup acc) = H8 at *
          have hal := dpAll_len hds8
          cases hds8 with
          | nil =>
            simp at hl
            omega
          | cons hv hvs =>
          rename_i v0 vs0 d0 ds0
          simp only [List.length_cons] at hl hal
          refine w_catT hp8 (tupOf ht8) (by simp; omega) fun t2 nt2 => ?_
          have s9 : Same H8 (upd H8 t2 (.tup ([.str z] ++ v0 :: vs0))) := Same.new nt2
          refine q _ (.tuple (.str z :: d0 :: ds0)) _ (b8.new nt2) (.tup (tupOf upd_same) (.cons (.str z) (.cons (dp_s s9 hv) (dps_s s9 hvs)))) (condG_node (by omega) ?_ ?_ ?_ (.inl ⟨hz2, by omega, by omega, fun e => by have := hp2.2.2 e; omega⟩) hG)
          · rcases hz2 with rfl | rfl
            · exact strOk_and
            · exact strOk_or
          · rcases hz2 with rfl | rfl <;> decide +kernel
          · rcases hz2 with rfl | rfl <;> decide +kernel
theorem ok__law_condition (T : Tx K mg) : Ok P w K mg base 9 "_law_condition" ["dice", "deep"] (spLCondR K 5) := okr__law_condition T 5
theorem okr__law_holds (T : Tx K mg) : ∀ n : Nat, Ok P w K mg base (1 + n) "_law_holds" ["condition", "land", "plan"] (spFitsR K n) := by
  intro n
  induction n with
  | zero =>
    refine (Ok.bot T.G__law_holds T.F__law_holds (fun _ _ _ _ _ _ us hl => match us, hl with | [_, _, _], _ => rfl)).imp (fun vs H Q E h => ?_)
    obtain ⟨v, d, l, p, k, rfl, hk, hd, sh, hp, q⟩ := h
    omega
  | succ n ih =>
  refine Ok.mk' (k := 1 + n) T.G__law_holds T.F__law_holds (fun _ _ _ _ _ _ us hl => match us, hl with | [_, _, _], _ => rfl) sc__law_holds (fun vs H Q E h => ?_) (fun cdv A outer s H vs Q E hr h => ?_)
  · obtain ⟨v, d, l, p, k, rfl, hk, hd, sh, hp, q⟩ := h
    rfl
  · obtain ⟨v, d, l, p, k, rfl, hk, hd, sh, hp, q⟩ := h
    refine ⟨(tSeq (tIfS (tTest (tOp (rIn K false) (tOp (rIxT K) (tVar 0) (tC (.int 0))) (tTup (tCons (tC (.str "land")) (tCons (tC (.str "plan")) tNil))))) (tRet (tOp (rIn K false) (tIf (tTest (tOp rEq (tOp (rIxT K) (tVar 0) (tC (.int 0))) (tC (.str "land")))) (tVar 1) (tVar 2)) (tOp (rIxT K) (tVar 0) (tC (.int 1))))) tNext)
      (tSeq (tIfS (tTest (tOp rEq (tOp (rIxT K) (tVar 0) (tC (.int 0))) (tC (.str "not")))) (tRet (tNotV (tCall (spFitsR K n) [] E (tCons (tOp (rIxT K) (tVar 0) (tC (.int 1))) (tCons (tVar 1) (tCons (tVar 2) tNil)))))) tNext)
      (tSeq (tFor (iTup K (tSl (rSlA K) (tVar 0) (tPart (tC (.int 1))) tNoPart)) (gName 3) (tIfS (tTest (tOp rNe (tCall (spFitsR K n) [] E (tCons (tVar 3) (tCons (tVar 1) (tCons (tVar 2) tNil)))) (tOp rEq (tOp (rIxT K) (tVar 0) (tC (.int 0))) (tC (.str "and"))))) (tRet (tOp rEq (tOp (rIxT K) (tVar 0) (tC (.int 0))) (tC (.str "or")))) tNext))
      (tRet (tOp rEq (tOp (rIxT K) (tVar 0) (tC (.int 0))) (tC (.str "and"))))))), (pss_cons (ps_if (pt_cmpR op_in_seq (pe_ix ix_tup (pv 0) pe_int (fun _ _ => rfl)) (pe_tup (pa_cons pe_str (pa_cons pe_str pa_nil))) (by rfl)) (pss_one (ps_ret (pe_cmpR op_in_seq (pe_ifExp (pt_cmpR op_eq (pe_ix ix_tup (pv 0) pe_int (fun _ _ => rfl)) pe_str (nomark _)) (pv 1) (pv 2)) (pe_ix ix_tup (pv 0) pe_int (fun _ _ => rfl)) (by rfl)))) pss_nil)
      (pss_cons (ps_if (pt_cmpR op_eq (pe_ix ix_tup (pv 0) pe_int (fun _ _ => rfl)) pe_str (nomark _)) (pss_one (ps_ret (pe_not (pe_f ih hr (pnx (L2N.takes_of rfl rfl rfl rfl)) (pa_cons (pe_ix ix_tup (pv 0) pe_int (fun _ _ => rfl)) (pa_cons (pv 1) (pa_cons (pv 2) pa_nil))))))) pss_nil)
      (pss_cons (ps_for (passes_of rfl) rfl (pi_tup (pe_slice sl_tupA (pv 0) (po_some pe_int) po_none)) (pg_name (i := 3) sc__law_holds.nd rfl (by first | exact Or.inl rfl | exact Or.inr rfl)) (pss_one (ps_if (pt_cmpR op_ne (pe_f ih hr (pnx (L2N.takes_of rfl rfl rfl rfl)) (pa_cons (pv 3) (pa_cons (pv 1) (pa_cons (pv 2) pa_nil)))) (pe_cmpR op_eq (pe_ix ix_tup (pv 0) pe_int (fun _ _ => rfl)) pe_str (nomark _)) (nomark _)) (pss_one (ps_ret (pe_cmpR op_eq (pe_ix ix_tup (pv 0) pe_int (fun _ _ => rfl)) pe_str (nomark _)))) pss_nil)))
      (pss_one (ps_ret (pe_cmpR op_eq (pe_ix ix_tup (pv 0) pe_int (fun _ _ => rfl)) pe_str (nomark _))))))), ?_⟩
    walk_at "0"
    obtain ⟨j, rfl⟩ : ∃ j, k = j + 1 := by
      cases k with
      | zero => exact absurd rfl hp
      | succ j => exact ⟨j, rfl⟩
    obtain ⟨z, a, r, rfl, hz⟩ := parts_inv hp
    walk_at "g"
    refine w_ixD0 hd fun u0 h0 => ?_
    cases dp_str h0
    walk_at "g"
    refine ⟨sz (by simp), fun t nt => ?_⟩
    have s1 : Same H (upd H t (.tup [.str "land", .str "plan"])) := Same.new nt
    refine w_inT (tupOf upd_same) rfl rfl ?_
    rw [inV_two]
    generalize upd H t (.tup [.str "land", .str "plan"]) = H1 at *
    have hd1 := dp_s s1 hd
    walk_at "g"
    refine if_b (fun hw => ?_) (fun hw => ?_)
    · walk_at "g"
      refine w_ixD0 hd1 fun u1 h1 => ?_
      cases dp_str h1
      walk_at "g"
      rcases hz with ⟨rfl, rfl, hr0⟩ | ⟨rfl, rfl, hr0⟩ | ⟨n1, n2, _⟩
      · refine if_t (decide_eq_true rfl) ?_
        obtain ⟨n0, ns, rfl, _⟩ := isRow_inv hr0
        walk_at "g"
        refine w_ixD1 hd1 fun u2 h2 => ?_
        obtain ⟨ad, xs, rfl, hx, hxs⟩ := dp_tuple h2
        cases dpAll_intsV hxs
        refine w_inT hx rfl (flat_ints _) ?_
        rw [inV_ints, ← inRowD_ints]
        rw [fitsD_land] at q
        exact q _ s1
      · refine if_f (by decide +kernel) ?_
        obtain ⟨n0, ns, rfl, _⟩ := isRow_inv hr0
        walk_at "g"
        refine w_ixD1 hd1 fun u2 h2 => ?_
        obtain ⟨ad, xs, rfl, hx, hxs⟩ := dp_tuple h2
        cases dpAll_intsV hxs
        refine w_inT hx rfl (flat_ints _) ?_
        rw [inV_ints, ← inRowD_ints]
        rw [fitsD_plan] at q
        exact q _ s1
      · simp [n1, n2] at hw
    · rcases hz with ⟨rfl, _⟩ | ⟨rfl, _⟩ | ⟨n1, n2, hg, hys⟩
      · simp at hw
      · simp at hw
      walk_at "g"
      refine w_ixD0 hd1 fun u1 h1 => ?_
      cases dp_str h1
      walk_at "g"
      by_cases hn : z = "not"
      · subst hn
        refine if_t (decide_eq_true rfl) ?_
        walk_at "g"
        refine w_ixD1 hd1 fun u2 h2 => ?_
        walk_at "g"
        refine ⟨u2, a, l, p, j, rfl, by omega, h2, okD_mem sh (by simp), hys a (by simp), fun H2 s2 => ?_⟩
        walk_at "g"
        rw [fitsD_not] at q
        exact q _ (s1.trans s2)
      · refine if_f (decide_eq_false hn) ?_
        have hao : z = "and" ∨ z = "or" := by
          rcases hg with ⟨e, _⟩ | ⟨e, _⟩
          · exact absurd e hn
          · exact e
        walk_at "g"
        obtain ⟨ad, xs, rfl, hx, hxs⟩ := dp_tuple hd1
        cases hxs with
        | cons hx0 hxs =>
        rename_i v0 xs
        refine w_sl1 hx fun p3 np3 => ?_
        have s3 : Same H1 (upd H1 p3 (.tup xs)) := Same.new np3
        have hp3 : (upd H1 p3 (.tup xs)) p3 = some (.tup xs) := upd_same
        generalize upd H1 p3 (.tup xs) = H3 at *
        walk_at "g"
        refine ⟨⟨xs, tupOf hp3⟩, ?_⟩
        have hxs3 := dps_s s3 hxs
        have hd3 := dp_s s3 hd1
        have hln : xs.length = (a :: r).length := dpAll_len hxs3
        refine for_go walk_tup (fun i σ H' => (∃ x, σ = [some (.ref ad), some (.int l), some (.int p), x]) ∧ Same H3 H' ∧ ∀ y ∈ (a :: r).take i, fitsD j y l p = decide (z = "and")) ⟨⟨_, rfl⟩, Same.refl _, fun _ h => by simp at h⟩ (fun i σ H' _ h => tupOf (h.2.1 _ _ hp3)) ?_ ?_
        · rintro i x σ H' H'' hi ⟨⟨x3, rfl⟩, s4, hall⟩ ⟨rfl, hxi⟩
          walk_at "g"
          obtain ⟨e, he, hde⟩ := dpAll_getV hxs3 hxi
          have em : e ∈ a :: r := List.mem_of_getElem? he
          refine ⟨x, e, l, p, j, rfl, by omega, dp_s s4 hde, okD_mem sh (List.mem_cons_of_mem _ em), hys e em, fun H5 s5 => ?_⟩
          walk_at "g"
          have hd5 := dp_s s5 (dp_s s4 hd3)
          refine w_ixD0 hd5 fun u3 h3 => ?_
          cases dp_str h3
          walk_at "g"
          refine w_neB ?_
          walk_at "g"
          have sT := (s1.trans s3).trans (s4.trans s5)
          refine if_b (fun hb => ?_) (fun hb => ?_)
          · walk_at "g"
            refine w_ixD0 hd5 fun u4 h4 => ?_
            cases dp_str h4
            walk_at "g"
            have eq : fitsD (j + 1) (.tuple (.str z :: a :: r)) l p = decide (z = "or") := by
              rcases hao with rfl | rfl
              · rw [fitsD_and]
                have e1 : fitsD j e l p = false := by simpa using hb
                rw [show decide (("and" : Str) = "or") = false by decide +kernel, List.all_eq_false]
                exact ⟨e, em, by rw [e1]; decide⟩
              · rw [fitsD_or]
                have e1 : fitsD j e l p = true := by
                  rw [show decide (("or" : Str) = "and") = false by decide +kernel] at hb
                  simpa using hb
                rw [decide_eq_true rfl, List.any_eq_true]
                exact ⟨e, em, e1⟩
            rw [← eq]
            exact q _ sT
          · walk_at "g"
            refine ⟨⟨_, rfl⟩, s4.trans s5, fun y hy => ?_⟩
            rw [List.take_add_one, he] at hy
            rcases List.mem_append.mp hy with hy | hy
            · exact hall y hy
            · have ey : y = e := by simpa using hy
              subst ey
              simpa using hb
        · rintro σ H' ⟨⟨x3, rfl⟩, s4, hall⟩
          walk_at "g"
          refine w_ixD0 (dp_s s4 hd3) fun u3 h3 => ?_
          cases dp_str h3
          walk_at "g"
          rw [List.take_of_length_le (by omega)] at hall
          have eq : fitsD (j + 1) (.tuple (.str z :: a :: r)) l p = decide (z = "and") := by
            rcases hao with rfl | rfl
            · rw [fitsD_and, decide_eq_true rfl, List.all_eq_true]
              intro y hy
              have := hall y hy
              simpa using this
            · rw [fitsD_or, show decide (("or" : Str) = "and") = false by decide +kernel, List.any_eq_false]
              intro y hy
              have := hall y hy
              rw [show decide (("or" : Str) = "and") = false by decide +kernel] at this
              rw [this]
              decide
          rw [← eq]
          exact q _ ((s1.trans s3).trans s4)
theorem ok__law_holds (T : Tx K mg) : Ok P w K mg base 7 "_law_holds" ["condition", "land", "plan"] (spFitsR K 6) := okr__law_holds T 6
theorem ok__law_rules (T : Tx K mg) : Ok P w K mg base 10 "_law_rules" ["dice", "deep"] (spLRules K) := by
  refine Ok.mk' T.G__law_rules T.F__law_rules (fun _ _ _ _ _ _ us hl => match us, hl with | [_, _], _ => rfl) sc__law_rules (fun vs H Q E h => ?_) (fun cdv A outer s H vs Q E hr h => ?_)
  · obtain ⟨a, k, rfl, k0, k1, hd, q⟩ := h
    rfl
  · obtain ⟨a, k, rfl, k0, k1, hd, q⟩ := h
    refine ⟨(tSeq (tAsg (tLst tNil) (gName 2))
      (tSeq (tFor (iRng1 (tCons (tCall (spRoll) [] E (tCons (tVar 0) (tCons (tC (.int 4)) tNil))) tNil)) (gName 3) (tSeq (tAsg (tOp (rIxL K) (tLst (tCons (tC (.int 0)) (tCons (tC (.int 100)) (tCons (tC (.int 1)) (tCons (tC (.int 99)) (tCons (tCall (spRoll) [] E (tCons (tVar 0) (tCons (tC (.int 101)) tNil))) (tCons (tCall (spRoll) [] E (tCons (tVar 0) (tCons (tC (.int 101)) tNil))) tNil))))))) (tCall (spRoll) [] E (tCons (tVar 0) (tCons (tC (.int 6)) tNil)))) (gName 4))
      (tDrop (tBM K "list" rAppend (tVar 2) (tCons (tTup (tCons (tCall (spLCondR K 5) [] E (tCons (tVar 0) (tCons (tVar 1) tNil))) (tCons (tVar 4) tNil))) tNil)))))
      (tSeq (tIfS (tTest (tOp rEq (tCall (spRoll) [] E (tCons (tVar 0) (tCons (tC (.int 3)) tNil))) (tC (.int 0)))) (tDrop (tBM K "list" rAppend (tVar 2) (tCons (tTup (tCons (tTup (tCons (tC (.str "plan")) (tCons (tTup (tCons (tC (.int 0)) (tCons (tC (.int 1)) (tCons (tC (.int 2)) (tCons (tC (.int 3)) tNil))))) tNil))) (tCons (tCall (spRoll) [] E (tCons (tVar 0) (tCons (tC (.int 101)) tNil))) tNil))) tNil))) tNext)
      (tRet (tCB (cTuple K) (tCons (tVar 2) tNil)))))), (pss_cons (ps_set (i := 2) sc__law_rules.nd rfl (by first | exact Or.inl rfl | exact Or.inr rfl) (pe_lst pa_nil))
      (pss_cons (ps_for (passes_of rfl) rfl (pi_range1 (by rfl) T.Z_range (pa_cons (pe_f (ok__law_roll T) hr (pnx (L2N.takes_of rfl rfl rfl rfl)) (pa_cons (pv 0) (pa_cons pe_int pa_nil))) pa_nil)) (pg_name (i := 3) sc__law_rules.nd rfl (by first | exact Or.inl rfl | exact Or.inr rfl)) (pss_cons (ps_set (i := 4) sc__law_rules.nd rfl (by first | exact Or.inl rfl | exact Or.inr rfl) (pe_ix ix_list (pe_lst (pa_cons pe_int (pa_cons pe_int (pa_cons pe_int (pa_cons pe_int (pa_cons (pe_f (ok__law_roll T) hr (pnx (L2N.takes_of rfl rfl rfl rfl)) (pa_cons (pv 0) (pa_cons pe_int pa_nil))) (pa_cons (pe_f (ok__law_roll T) hr (pnx (L2N.takes_of rfl rfl rfl rfl)) (pa_cons (pv 0) (pa_cons pe_int pa_nil))) pa_nil))))))) (pe_f (ok__law_roll T) hr (pnx (L2N.takes_of rfl rfl rfl rfl)) (pa_cons (pv 0) (pa_cons pe_int pa_nil))) (fun _ _ => rfl)))
      (pss_one (ps_expr (pe_bm PySem.F.plainAttrs_list PySem.F.slot_list_append PySem.F.type_list_append mt_append (pv 2) (pa_cons (pe_tup (pa_cons (pe_f (ok__law_condition T) hr (pnx (L2N.takes_of rfl rfl rfl rfl)) (pa_cons (pv 0) (pa_cons (pv 1) pa_nil))) (pa_cons (pv 4) pa_nil))) pa_nil))))))
      (pss_cons (ps_if (pt_cmpR op_eq (pe_f (ok__law_roll T) hr (pnx (L2N.takes_of rfl rfl rfl rfl)) (pa_cons (pv 0) (pa_cons pe_int pa_nil))) pe_int (nomark _)) (pss_one (ps_expr (pe_bm PySem.F.plainAttrs_list PySem.F.slot_list_append PySem.F.type_list_append mt_append (pv 2) (pa_cons (pe_tup (pa_cons (pe_tup (pa_cons pe_str (pa_cons (pe_tup (pa_cons pe_int (pa_cons pe_int (pa_cons pe_int (pa_cons pe_int pa_nil))))) pa_nil))) (pa_cons (pe_f (ok__law_roll T) hr (pnx (L2N.takes_of rfl rfl rfl rfl)) (pa_cons (pv 0) (pa_cons pe_int pa_nil))) pa_nil))) pa_nil)))) pss_nil)
      (pss_one (ps_ret (pe_callTy call_tuple_of (by rfl) T.Z_tuple (by decide +kernel) (pa_cons (pv 2) pa_nil))))))), ?_⟩
    walk_at "0"
    walk_at "g"
    refine ⟨sz (by simp), fun L nL => ?_⟩
    have b0 := (But.refl hd).new (o := .lst []) nL
    have nLa := hd.ne nL
    have hL0 : upd H L (.lst []) L = some (.lst []) := upd_same
    generalize upd H L (.lst []) = H0 at *
    walk_at "g"
    refine ⟨a, 4, rfl, b0.d1, by decide, by decide, fun n H1 n0 n1 b1 => ?_⟩
    walk_at "g"
    refine ⟨by omega, by omega, ?_⟩
    have hL1 := b1.kp _ _ hL0 nLa
    refine for_go walk_range (fun i σ H' => (∃ x3 x4, σ = [some (.ref a), some (.int (k : Nat)), some (.ref L), x3, x4]) ∧ But a H H' ∧ ∃ xs ds, H' L = some (.lst xs) ∧ DpAll K H' xs ds ∧ ds.length ≤ i ∧ ∀ d ∈ ds, RuleG d) ⟨⟨_, _, rfl⟩, b0.trans b1, [], [], hL1, .nil, Nat.le_refl _, fun _ h => by cases h⟩ (fun _ _ _ _ _ => trivial) ?_ ?_
    · rintro i x σ H2 H2' hi ⟨⟨x3, x4, rfl⟩, b2, xs, ds, hL2, hxs, hl, hG⟩ ⟨rfl, rfl⟩
      walk_at "g"
      refine ⟨a, 101, rfl, b2.d1, by decide, by decide, fun r1 H3 r10 r11 b3 => ?_⟩
      walk_at "g"
      refine ⟨a, 101, rfl, b3.d1, by decide, by decide, fun r2 H4 r20 r21 b4 => ?_⟩
      walk_at "g"
      refine ⟨sz (by simp), fun p np => ?_⟩
      have b5 := ((b2.trans b3).trans b4).new (o := .lst [.int 0, .int 100, .int 1, .int 99, .int r1, .int r2]) np
      have hp5 : upd H4 p (.lst [.int 0, .int 100, .int 1, .int 99, .int r1, .int r2]) p = some (.lst [.int 0, .int 100, .int 1, .int 99, .int r1, .int r2]) := upd_same
      have b45 : But a H4 (upd H4 p (.lst [.int 0, .int 100, .int 1, .int 99, .int r1, .int r2])) := But.of b4.d1 (Same.new np)
      have npa := b4.d1.ne np
      generalize upd H4 p (.lst [.int 0, .int 100, .int 1, .int 99, .int r1, .int r2]) = H5 at *
      walk_at "g"
      refine ⟨a, 6, rfl, b5.d1, by decide, by decide, fun r3 H6 r30 r31 b6 => ?_⟩
      obtain ⟨m, hm, hm2⟩ := atI_sixI (a := 0) (b := 100) (c := 1) (d := 99) (e := r1) (f := r2) r30 r31
      refine w_ixL (lstOf (b6.kp _ _ hp5 npa)) hm ?_
      have m01 : 0 ≤ m ∧ m ≤ 100 := by omega
      walk_at "g"
      have b26 := ((b3.trans b4).trans b45).trans b6
      have hL6 := b26.kp _ _ hL2 nLa
      refine ⟨tyL hL6, ?_⟩
      walk_at "g"
      refine ⟨a, k, rfl, k0, by omega, by omega, b6.d1, fun v c H7 b7 hv hG7 => ?_⟩
      walk_at "g"
      refine ⟨sz (by simp), fun t nt => ?_⟩
      have b27 := (b26.trans b7).new (o := .tup [v, .int m]) nt
      have hL8 := b27.kp _ _ hL2 nLa
      have hds := RulesG.imm (ds := ds) ⟨by omega, hG⟩
      have hxs8 := b27.dpAll hds hxs
      have hn8 : Dp K (upd H7 t (.tup [v, .int m])) (.ref t) (.tuple [c, .int m]) := .tup (tupOf upd_same) (.cons (dp_s (Same.new nt) hv) (.cons (.int m) .nil))
      have hr8 : RuleG (.tuple [c, .int m]) := ⟨c, m, k, rfl, by omega, hG7, m01.1, m01.2⟩
      generalize upd H7 t (.tup [v, .int m]) = H8 at *
      have hxl := dpAll_len hxs8
      walk_at "g"
      refine w_app hL8 (by omega) ?_
      walk_at "g"
      refine ⟨⟨_, _, rfl⟩, (b2.trans b27).mut nL nLa, xs ++ [.ref t], ds ++ [.tuple [c, .int m]], upd_same, ?_, by simp; omega, fun d hd => ?_⟩
      · refine dpAll_mut hL8 ?_ (dpAll_app hxs8 (.cons hn8 .nil))
        rw [immAll_app, hds]
        simp only [immAll, hr8.imm, Bool.and_self]
      · rcases List.mem_append.mp hd with hd | hd
        · exact hG d hd
        · cases List.mem_singleton.mp hd
          exact hr8
    · rintro σ H2 ⟨⟨x3, x4, rfl⟩, b2, xs, ds, hL2, hxs, hl, hG⟩
      have hl3 : ds.length ≤ 3 := by omega
      walk_at "g"
      refine ⟨a, 3, rfl, b2.d1, by decide, by decide, fun r H3 r0 r1 b3 => ?_⟩
      walk_at "g"
      have hds := RulesG.imm (ds := ds) ⟨by omega, hG⟩
      have hL3 := b3.kp _ _ hL2 nLa
      have hxs3 := b3.dpAll hds hxs
      have bT := b2.trans b3
      have hxl := dpAll_len hxs3
      refine if_b (fun _ => ?_) (fun _ => ?_)
      · walk_at "g"
        refine ⟨tyL hL3, ?_⟩
        walk_at "g"
        refine ⟨sz (by simp), fun t1 nt1 => ?_⟩
        have b4 : But a H3 (upd H3 t1 (.tup [.int 0, .int 1, .int 2, .int 3])) := But.of b3.d1 (Same.new nt1)
        have ht1 : upd H3 t1 (.tup [.int 0, .int 1, .int 2, .int 3]) t1 = some (.tup [.int 0, .int 1, .int 2, .int 3]) := upd_same
        generalize upd H3 t1 (.tup [.int 0, .int 1, .int 2, .int 3]) = H4 at *
        walk_at "g"
        refine ⟨sz (by simp), fun t2 nt2 => ?_⟩
        have b5 := b4.new (o := .tup [.str "plan", .ref t1]) nt2
        have hc5 : Dp K (upd H4 t2 (.tup [.str "plan", .ref t1])) (.ref t2) (.tuple [.str "plan", .tuple (([0, 1, 2, 3] : List Int).map PyData.int)]) := .tup (tupOf upd_same) (.cons (.str _) (.cons (.tup (tup_s (Same.new nt2) (tupOf ht1)) (dpAll_ints [0, 1, 2, 3])) .nil))
        generalize upd H4 t2 (.tup [.str "plan", .ref t1]) = H5 at *
        walk_at "g"
        refine ⟨a, 101, rfl, b5.d1, by decide, by decide, fun m H6 m0 m1 b6 => ?_⟩
        walk_at "g"
        refine ⟨sz (by simp), fun t3 nt3 => ?_⟩
        have hGc : CondG 1 (.tuple [.str "plan", .tuple (([0, 1, 2, 3] : List Int).map PyData.int)]) := condG_leaf (by decide) (.inr ⟨rfl, rfl⟩) (by decide) (by decide +kernel)
        have hr8 : RuleG (.tuple [.tuple [.str "plan", .tuple (([0, 1, 2, 3] : List Int).map PyData.int)], .int m]) := ⟨_, m, 1, rfl, by omega, hGc, m0, by omega⟩
        have hn8 : Dp K (upd H6 t3 (.tup [.ref t2, .int m])) (.ref t3) (.tuple [.tuple [.str "plan", .tuple (([0, 1, 2, 3] : List Int).map PyData.int)], .int m]) := .tup (tupOf upd_same) (.cons (dp_s (Same.new nt3) (b6.dp hGc.im hc5)) (.cons (.int m) .nil))
        have b7 := (b5.trans b6).new (o := .tup [.ref t2, .int m]) nt3
        generalize upd H6 t3 (.tup [.ref t2, .int m]) = H7 at *
        have hL7 := b7.kp _ _ hL3 nLa
        have hxs7 := b7.dpAll hds hxs3
        walk_at "g"
        refine w_app hL7 (by omega) ?_
        have hi8 : immAll (ds ++ [.tuple [.tuple [.str "plan", .tuple (([0, 1, 2, 3] : List Int).map PyData.int)], .int m]]) = true := by
          rw [immAll_app, hds]
          simp only [immAll, hr8.imm, Bool.and_self]
        have hxs8 := dpAll_mut (o := .lst (xs ++ [.ref t3])) hL7 hi8 (dpAll_app hxs7 (.cons hn8 .nil))
        have b8 := (bT.trans b7).mut (o := .lst (xs ++ [.ref t3])) nL nLa
        have hL8 : upd H7 L (.lst (xs ++ [.ref t3])) L = some (.lst (xs ++ [.ref t3])) := upd_same
        generalize upd H7 L (.lst (xs ++ [.ref t3])) = H8 at *
        walk_at "g"
        refine ⟨_, _, rfl, .inl ⟨lstOf hL8, fun t nt => ?_⟩⟩
        refine q _ _ _ (b8.new nt) (.tup (tupOf upd_same) (dps_s (Same.new nt) hxs8)) ⟨by simp; omega, fun d hd => ?_⟩
        rcases List.mem_append.mp hd with hd | hd
        · exact hG d hd
        · cases List.mem_singleton.mp hd
          exact hr8
      · walk_at "g"
        refine ⟨_, _, rfl, .inl ⟨lstOf hL3, fun t nt => ?_⟩⟩
        exact q _ _ _ (bT.new nt) (.tup (tupOf upd_same) (dps_s (Same.new nt) hxs3)) ⟨by omega, hG⟩
theorem ok__law_share (T : Tx K mg) : Ok P w K mg base 8 "_law_share" ["rules", "land", "plan"] (spShareOf K) := by
  refine Ok.mk' T.G__law_share T.F__law_share (fun _ _ _ _ _ _ us hl => match us, hl with | [_, _, _], _ => rfl) sc__law_share (fun vs H Q E h => ?_) (fun cdv A outer s H vs Q E hr h => ?_)
  · obtain ⟨v, ds, l, p, rfl, hd, sh, hR, q⟩ := h
    rfl
  · obtain ⟨v, ds, l, p, rfl, hd, sh, hR, q⟩ := h
    refine ⟨(tSeq (tFor (iTup K (tVar 0)) (gTup K 2 (gCons (gName 3) (gCons (gName 4) gNil))) (tIfS (tB (tCall (spFitsR K 6) [] E (tCons (tVar 3) (tCons (tVar 1) (tCons (tVar 2) tNil))))) (tRet (tVar 4)) tNext))
      (tRet (tC (.int 0)))), (pss_cons (ps_for (passes_of rfl) rfl (pi_tup (pv 0)) (pg_tup (by rfl) (pgs_cons (pg_name (i := 3) sc__law_share.nd rfl (by first | exact Or.inl rfl | exact Or.inr rfl)) (pgs_cons (pg_name (i := 4) sc__law_share.nd rfl (by first | exact Or.inl rfl | exact Or.inr rfl)) pgs_nil))) (pss_one (ps_if (pt_val (pe_f (ok__law_holds T) hr (pnx (L2N.takes_of rfl rfl rfl rfl)) (pa_cons (pv 3) (pa_cons (pv 1) (pa_cons (pv 2) pa_nil))))) (pss_one (ps_ret (pv 4))) pss_nil)))
      (pss_one (ps_ret pe_int))), ?_⟩
    walk_at "0"
    walk_at "g"
    obtain ⟨a, xs, rfl, hx, hxs⟩ := dp_tuple hd
    walk_at "g"
    refine ⟨⟨xs, hx⟩, ?_⟩
    have hxl := dpAll_len hxs
    refine for_go walk_tup (fun i σ H' => (∃ x3 x4, σ = [some (.ref a), some (.int l), some (.int p), x3, x4]) ∧ Same H H' ∧ shareL ds l p = shareL (ds.drop i) l p) ⟨⟨_, _, rfl⟩, Same.refl _, rfl⟩ (fun i σ H' _ h => tup_s h.2.1 hx) ?_ ?_
    · rintro i x σ H' H'' hi ⟨⟨x3, x4, rfl⟩, s1, he⟩ ⟨rfl, hxi⟩
      obtain ⟨e, he2, hde⟩ := dpAll_getV hxs hxi
      have hm := List.mem_of_getElem? he2
      obtain ⟨c, m, rfl, hc, m0, m1⟩ := isRule_inv (areRules_mem hR hm)
      obtain ⟨a2, u, rfl, hs2, hu⟩ := dp_pair (dp_s s1 hde)
      refine w_gtup hs2 rfl ?_
      walk_at "g"
      refine ⟨u, c, l, p, 5, rfl, by decide, hu, okD_mem (okD_mem sh hm) (by simp), isCond_parts hc, fun H3 s3 => ?_⟩
      walk_at "g"
      rw [shareL_drop he2] at he
      cases hf : fitsD 5 c l p with
      | true =>
        walk_at "g"
        rw [hf] at he
        have he : shareL ds l p = m := he
        rw [← he]
        exact q _ (s1.trans s3)
      | false =>
        walk_at "g"
        rw [hf] at he
        exact ⟨⟨_, _, rfl⟩, s1.trans s3, he⟩
    · rintro σ H' ⟨⟨x3, x4, rfl⟩, s1, he⟩
      walk_at "g"
      rw [List.drop_of_length_le (by omega)] at he
      have he : shareL ds l p = 0 := he
      rw [← he]
      exact q _ s1
theorem ok__law_kinds (T : Tx K mg) : Ok P w K mg base 1 "_law_kinds" [] (spKinds K) := by
  refine Ok.mk' T.G__law_kinds T.F__law_kinds (fun _ _ _ _ _ _ us hl => match us, hl with | [], _ => rfl) sc__law_kinds (fun vs H Q E h => ?_) (fun cdv A outer s H vs Q E hr h => ?_)
  · obtain ⟨rfl, q⟩ := h
    rfl
  · obtain ⟨rfl, q⟩ := h
    refine ⟨(tRet (tLc (iRng1 (tCons (tC (.int 24)) tNil)) (gName 0) tYes (tTup (tCons (tOp oDiv (tVar 0) (tC (.int 4))) (tCons (tOp oMod (tVar 0) (tC (.int 4))) tNil))) [0])), (pss_one (ps_ret (pe_lc (own := [("at", 0)]) rfl sc__law_kinds.nd (pi_range1 (by rfl) T.Z_range (pa_cons pe_int pa_nil)) (blkOk_by (own := [("at", 0)]) (N := ["at"]) (sc := defScope s__law_kinds) (by decide +kernel)) (fun _ _ _ _ _ => (pg_name (i := 0) sc__law_kinds.nd rfl (by first | exact Or.inl rfl | exact Or.inr rfl))) (fun _ _ _ _ _ => pts_nil) (fun _ _ _ _ _ => (pe_tup (pa_cons (pe_op op_fdivW (pv 0) pe_int) (pa_cons (pe_op op_mod (pv 0) pe_int) pa_nil))))))), ?_⟩
    walk_at "0"
    walk_at "g"
    refine ⟨by decide, by decide, ?_⟩
    refine lc_data (K := K) walk_range (by decide) ((List.range 24).map fun (i : Nat) => [kd ((i : Int) / 4, (i : Int) % 4)]) (by simp) (fun _ _ => trivial) ?_ ?_
    · rintro D i acc x H' H'' hD hi hacc hH' iv ⟨rfl, rfl⟩
      walk_at "g"
      refine ⟨rfl, ?_⟩
      walk_at "g"
      refine w_I (divW (by decide) (by decide)) ?_
      walk_at "g"
      refine w_I (by decide) ?_
      walk_at "g"
      refine ⟨sz (by simp), fun t nt => ?_⟩
      have hi24 : i < 24 := hi
      refine lcd_nx hD (by omega) hacc hH' iv (Same.new nt) (dp_kd upd_same) ?_ ?_
      · rw [flat_oneD (fun (i : Nat) => kd ((i : Int) / 4, (i : Int) % 4))]
        refine immAll_mem fun d hd => ?_
        obtain ⟨k, _, rfl⟩ := List.mem_map.mp hd
        exact kd_imm _
      · rw [List.getElem?_map, List.getElem?_range hi24]
        simp
    · intro D acc H1 hD s1 hD1 hacc
      rw [flat_oneD (fun (i : Nat) => kd ((i : Int) / 4, (i : Int) % 4))] at hacc
      have e : (List.range 24).map (fun (i : Nat) => kd ((i : Int) / 4, (i : Int) % 4)) = kindL.map kd := by
        rw [← kinds24, List.map_map]
        rfl
      rw [e] at hacc
      exact q D acc H1 s1 hD hD1 hacc
theorem ok__law_let (T : Tx K mg) : Ok P w K mg base 9 "_law_let" ["rules", "deal", "user"] (spLets K) := by
  refine Ok.mk' T.G__law_let T.F__law_let (fun _ _ _ _ _ _ us hl => match us, hl with | [_, _, _], _ => rfl) sc__law_let (fun vs H Q E h => ?_) (fun cdv A outer s H vs Q E hr h => ?_)
  · obtain ⟨v, w', u, ds, s', t', n, l, p, rfl, hd, sh, hR, hw, s0, s1, hu, q⟩ := h
    rfl
  · obtain ⟨v, w', u, ds, s', t', n, l, p, rfl, hd, sh, hR, hw, s0, s1, hu, q⟩ := h
    refine ⟨(tRet (tOp oLt (tOp oMod (tOp oAdd (tOp oMul (tOp (rIxT K) (tVar 2) (tC (.int 0))) (tOp (rIxT K) (tVar 1) (tC (.int 0)))) (tOp (rIxT K) (tVar 1) (tC (.int 1)))) (tC (.int 100))) (tCall (spShareOf K) [] E (tCons (tVar 0) (tCons (tOp (rIxT K) (tVar 2) (tC (.int 1))) (tCons (tOp (rIxT K) (tVar 2) (tC (.int 2))) tNil)))))), (pss_one (ps_ret (pe_cmpR op_lt (pe_op op_mod (pe_op op_add (pe_op op_mul (pe_ix ix_tup (pv 2) pe_int (fun _ _ => rfl)) (pe_ix ix_tup (pv 1) pe_int (fun _ _ => rfl))) (pe_ix ix_tup (pv 1) pe_int (fun _ _ => rfl))) pe_int) (pe_f (ok__law_share T) hr (pnx (L2N.takes_of rfl rfl rfl rfl)) (pa_cons (pv 0) (pa_cons (pe_ix ix_tup (pv 2) pe_int (fun _ _ => rfl)) (pa_cons (pe_ix ix_tup (pv 2) pe_int (fun _ _ => rfl)) pa_nil)))) (nomark _)))), ?_⟩
    walk_at "0"
    walk_at "g"
    refine w_ixD0 hu fun u0 h0 => ?_
    cases dp_int h0
    walk_at "g"
    refine w_ixD0 hw fun u3 h3 => ?_
    cases dp_int h3
    refine w_I (.inr ⟨by omega, by omega⟩) ?_
    walk_at "g"
    refine w_ixD1 hw fun u4 h4 => ?_
    cases dp_int h4
    walk_at "g"
    refine w_I (by decide) ?_
    walk_at "g"
    refine w_ixD1 hu fun u1 h1 => ?_
    cases dp_int h1
    walk_at "g"
    refine w_ixD2 hu fun u2 h2 => ?_
    cases dp_int h2
    walk_at "g"
    refine ⟨v, ds, l, p, rfl, hd, sh, hR, fun H2 s2 => ?_⟩
    walk_at "g"
    exact q _ s2
theorem ok__law_users (T : Tx K mg) : Ok P w K mg base 2 "_law_users" ["low", "high"] (spLUsers K) := by
  refine Ok.mk' T.G__law_users T.F__law_users (fun _ _ _ _ _ _ us hl => match us, hl with | [_, _], _ => rfl) sc__law_users (fun vs H Q E h => ?_) (fun cdv A outer s H vs Q E hr h => ?_)
  · obtain ⟨lo, hi, rfl, l0, l1, h0, h1, q⟩ := h
    rfl
  · obtain ⟨lo, hi, rfl, l0, l1, h0, h1, q⟩ := h
    refine ⟨(tSeq (tAsg (tLst tNil) (gName 2))
      (tSeq (tFor (iRng2 (tCons (tVar 0) (tCons (tOp oAdd (tVar 1) (tC (.int 1))) tNil))) (gName 3) (tAsg (tOp rCat (tVar 2) (tLc (iList K (tCall (spKinds K) [] E tNil)) (gName 4) tYes (tOp (rCatT K) (tTup (tCons (tVar 3) tNil)) (tVar 4)) [4])) (gName 2)))
      (tRet (tVar 2)))), (pss_cons (ps_set (i := 2) sc__law_users.nd rfl (by first | exact Or.inl rfl | exact Or.inr rfl) (pe_lst pa_nil))
      (pss_cons (ps_for (passes_of rfl) rfl (pi_range2 (by rfl) T.Z_range (pa_cons (pv 0) (pa_cons (pe_op op_add (pv 1) pe_int) pa_nil))) (pg_name (i := 3) sc__law_users.nd rfl (by first | exact Or.inl rfl | exact Or.inr rfl)) (pss_one (ps_set (i := 2) sc__law_users.nd rfl (by first | exact Or.inl rfl | exact Or.inr rfl) (pe_op op_cat (pv 2) (pe_lc (own := [("kind", 4)]) rfl sc__law_users.nd (pi_list (pe_f0 (ok__law_kinds T) hr (pnx (L2N.takes_of rfl rfl rfl rfl)))) (blkOk_by (own := [("kind", 4)]) (N := ["low", "high", "found", "number", "kind"]) (sc := defScope s__law_users) (by decide +kernel)) (fun _ _ _ _ _ => (pg_name (i := 4) sc__law_users.nd rfl (by first | exact Or.inl rfl | exact Or.inr rfl))) (fun _ _ _ _ _ => pts_nil) (fun _ _ _ _ _ => (pe_op op_catT (pe_tup (pa_cons (pv 3) pa_nil)) (pv 4))))))))
      (pss_one (ps_ret (pv 2))))), ?_⟩
    walk_at "0"
    walk_at "g"
    refine ⟨sz (by simp), fun L0 nL0 => ?_⟩
    walk_at "g"
    refine ⟨⟨by omega, by omega, by omega, by omega⟩, ?_⟩
    refine for_go walk_range (fun i σ H' => ∃ (L : Addr) (xs : List V) (x3 x4 : Option V), σ = [some (.int lo), some (.int hi), some (.ref L), x3, x4] ∧ Same H H' ∧ H L = none ∧ H' L = some (.lst xs) ∧ DpAll K H' xs (usersL lo i)) ⟨L0, [], _, _, rfl, Same.new nL0, nL0, upd_same, .nil⟩ (fun _ _ _ _ _ => trivial) ?_ ?_
    · rintro i x σ H1 H1' hi2 ⟨L, xs, x3, x4, rfl, s1, nL, hL, hxs⟩ ⟨rfl, rfl⟩
      have hxl := dpAll_len hxs
      rw [usersL_len] at hxl
      have hi3 : i < 1000 := by
        have : i < (hi + 1 - lo).toNat := hi2
        omega
      walk_at "g"
      refine ⟨rfl, fun LK ks H2 s2 nLK hLK hks => ?_⟩
      walk_at "g"
      refine ⟨⟨ks, lstOf hLK⟩, ?_⟩
      have hkl := dpAll_len hks
      have hk24 : ks.length = 24 := by
        rw [hkl]
        decide
      refine lc_data (K := K) (walk_list (xs := ks)) (by omega) (kindL.map fun k => [ud (lo + (i : Int)) k]) (by rw [hk24]; simp [kindsTo_len]) (fun H' s => lstOf (s _ _ hLK)) ?_ ?_
      · rintro D j acc x H' H'' hD hj hacc hH' iv ⟨rfl, hxj⟩
        obtain ⟨k, a2, hk, rfl, hs2⟩ := getElem?_kd hks hxj
        walk_at "g"
        refine ⟨rfl, ?_⟩
        walk_at "g"
        refine ⟨sz (by simp), fun t1 nt1 => ?_⟩
        walk_at "g"
        have sA : Same H'' (upd H'' t1 (.tup [.int (lo + (i : Int))])) := Same.new nt1
        refine w_catT (tupOf upd_same) (tup_s sA (tup_s iv.1 hs2)) (by simp) fun t2 nt2 => ?_
        refine lcd_nx hD (by omega) hacc hH' iv (sA.trans (Same.new nt2)) (d := ud (lo + (i : Int)) k) (.tup (tupOf upd_same) (.cons (.int _) (.cons (.int _) (.cons (.int _) .nil)))) ?_ ?_
        · rw [flat_oneD (fun k : Int × Int => ud (lo + (i : Int)) k)]
          exact immAll_ud _ _
        · rw [List.getElem?_map, hk]
          rfl
      · intro D acc H3 hD s3 hD3 hacc
        rw [flat_oneD (fun k : Int × Int => ud (lo + (i : Int)) k)] at hacc
        have hal := dpAll_len hacc
        have h24 : kindL.length = 24 := by simp [kindsTo_len]
        rw [List.length_map, h24] at hal
        have s23 := s2.trans s3
        refine w_cat (s23 _ _ hL) hD3 (by omega) fun p3 np3 => ?_
        walk_at "g"
        have s4 : Same H3 (upd H3 p3 (.lst (xs ++ acc))) := Same.new np3
        refine ⟨p3, xs ++ acc, _, _, rfl, (s1.trans s23).trans s4, s1.free (s23.free np3), upd_same, ?_⟩
        rw [usersL_succ]
        exact dpAll_app (dps_s s4 (dps_s s23 hxs)) (dps_s s4 hacc)
    · rintro σ H1 ⟨L, xs, x3, x4, rfl, s1, nL, hL, hxs⟩
      walk_at "g"
      exact q L xs H1 s1 nL hL hxs
theorem ok__law_wider (T : Tx K mg) : Ok P w K mg base 3 "_law_wider" ["rules", "dice"] (spWider K) := by
  refine Ok.mk' T.G__law_wider T.F__law_wider (fun _ _ _ _ _ _ us hl => match us, hl with | [_, _], _ => rfl) sc__law_wider (fun vs H Q E h => ?_) (fun cdv A outer s H vs Q E hr h => ?_)
  · obtain ⟨v, a, ds, rfl, hd, hv, hG, q⟩ := h
    rfl
  · obtain ⟨v, a, ds, rfl, hd, hv, hG, q⟩ := h
    refine ⟨(tRet (tCB (cTuple K) (tCons (tLc (iTup K (tVar 0)) (gTup K 2 (gCons (gName 2) (gCons (gName 3) gNil))) tYes (tTup (tCons (tVar 2) (tCons (tCB cMin2 (tCons (tC (.int 100)) (tCons (tOp oAdd (tVar 3) (tOp oMul (tCall (spRoll) [] E0 (tCons (tVar 1) (tCons (tC (.int 3)) tNil))) (tCall (spRoll) [] E0 (tCons (tVar 1) (tCons (tC (.int 40)) tNil))))) tNil))) tNil))) [2, 3]) tNil))), (pss_one (ps_ret (pe_callTy call_tuple_of (by rfl) T.Z_tuple (by decide +kernel) (pa_cons (pe_lc (own := [("condition", 2), ("many", 3)]) rfl sc__law_wider.nd (pi_tup (pv 0)) (blkOk_by (own := [("condition", 2), ("many", 3)]) (N := ["rules", "dice", "condition", "many"]) (sc := defScope s__law_wider) (by decide +kernel)) (fun _ _ _ _ _ => (pg_tup (by rfl) (pgs_cons (pg_name (i := 2) sc__law_wider.nd rfl (by first | exact Or.inl rfl | exact Or.inr rfl)) (pgs_cons (pg_name (i := 3) sc__law_wider.nd rfl (by first | exact Or.inl rfl | exact Or.inr rfl)) pgs_nil)))) (fun _ _ _ _ _ => pts_nil) (fun _ _ _ _ _ => (pe_tup (pa_cons (pv 2) (pa_cons (pe_callB (call_min2 rfl) (by rfl) T.Z_min (by decide +kernel) (pa_cons pe_int (pa_cons (pe_op op_add (pv 3) (pe_op op_mul (pe_f (ok__law_roll T) hr pn0 (pa_cons (pv 1) (pa_cons pe_int pa_nil))) (pe_f (ok__law_roll T) hr pn0 (pa_cons (pv 1) (pa_cons pe_int pa_nil))))) pa_nil))) pa_nil))))) pa_nil)))), ?_⟩
    walk_at "0"
    walk_at "g"
    obtain ⟨ad, xs, rfl, hx, hxs⟩ := dp_tuple hv
    walk_at "g"
    refine ⟨⟨xs, hx⟩, ?_⟩
    have hxl := dpAll_len hxs
    have hl4 := hG.len
    refine lc_dice (K := K) (a := a) (walk_tup (xs := xs)) (by omega) (fun i es => es.length = i ∧ (∀ d ∈ es, RuleG d) ∧ Wider (ds.take i) es) hd ⟨rfl, fun _ h => (by cases h), .nil⟩ (fun H' b => b.tup hx) ?_ ?_
    · rintro D i acc x H' H'' hD hi hacc hH' ⟨bb, nD, es, hes, im, hle, hGe, hW⟩ ⟨rfl, hxi⟩
      obtain ⟨e, he, hde⟩ := dpAll_getV hxs hxi
      have hm := List.mem_of_getElem? he
      have hrg := hG.all e hm
      obtain ⟨c, m, kk, rfl, hk, hc, m0, m1⟩ := hrg
      obtain ⟨a2, u, rfl, hs2, hu⟩ := dp_pair (bb.dp (hG.all _ hm).imm hde)
      refine w_gtup hs2 rfl ?_
      walk_at "g"
      refine ⟨rfl, ?_⟩
      walk_at "g"
      refine ⟨a, 3, rfl, bb.d1, by decide, by decide, fun r H1 r0 r1 b1 => ?_⟩
      walk_at "g"
      refine ⟨a, 40, rfl, b1.d1, by decide, by decide, fun r2 H2 r20 r21 b2 => ?_⟩
      refine w_I (.inl ⟨by omega, by omega⟩) ?_
      walk_at "g"
      refine ⟨sz (by simp), fun t nt => ?_⟩
      have hmul : 0 ≤ r * r2 := Int.mul_nonneg r0 r20
      have b3 := (b1.trans b2).new (o := .tup [u, .int (if m + r * r2 < 100 then m + r * r2 else 100)]) nt
      refine lcr_nx (d := .tuple [c, .int (if m + r * r2 < 100 then m + r * r2 else 100)]) hD (by omega) hacc hH' bb nD hes im b3 (.tup (tupOf upd_same) (.cons (b3.dp hc.im hu) (.cons (.int _) .nil))) ?_ ⟨by simp [hle], fun d hd => ?_, ?_⟩
      · simp only [imm, immAll, hc.im, Bool.and_self]
      · rcases List.mem_append.mp hd with hd | hd
        · exact hGe d hd
        · cases List.mem_singleton.mp hd
          exact ⟨c, _, kk, rfl, hk, hc, by split <;> omega, by split <;> omega⟩
      · rw [List.take_add_one, he]
        exact hW.snoc (by split <;> omega)
    · rintro D acc es H1 hD b1 nD hD1 hes im ⟨hle, hGe, hW⟩
      walk_at "g"
      refine ⟨_, _, rfl, .inl ⟨lstOf hD1, fun t nt => ?_⟩⟩
      rw [List.take_of_length_le (by omega)] at hW
      exact q _ es _ (b1.new nt) (.tup (tupOf upd_same) (dps_s (Same.new nt) hes)) ⟨by omega, hGe⟩ hW
theorem ok__law_course (T : Tx K mg) : Ok P w K mg base 11 "_law_course" ["dice", "is_growing"] (spLCourse K) := by
  refine Ok.mk' T.G__law_course T.F__law_course (fun _ _ _ _ _ _ us hl => match us, hl with | [_, _], _ => rfl) sc__law_course (fun vs H Q E h => ?_) (fun cdv A outer s H vs Q E hr h => ?_)
  · obtain ⟨a, g, rfl, hd, q⟩ := h
    rfl
  · obtain ⟨a, g, rfl, hd, q⟩ := h
    refine ⟨(tSeq (tPar3 2 3 4 (tCons (tLst tNil) (tCons (tCall (spRoll) [] E (tCons (tVar 0) (tCons (tC (.int 20)) tNil))) (tCons (tCall (spLRules K) [] E (tCons (tVar 0) (tCons (tC (.int 2)) tNil))) tNil))))
      (tSeq (tFor (iRng1 (tCons (tOp oAdd (tC (.int 1)) (tCall (spRoll) [] E (tCons (tVar 0) (tCons (tC (.int 5)) tNil)))) tNil)) (gName 5) (tSeq (tDrop (tBM K "list" rAppend (tVar 2) (tCons (tTup (tCons (tVar 3) (tCons (tVar 4) tNil))) tNil)))
      (tSeq (tAsg (tOp oAdd (tOp oAdd (tVar 3) (tC (.int 1))) (tOp oMul (tCall (spRoll) [] E (tCons (tVar 0) (tCons (tC (.int 3)) tNil))) (tCall (spRoll) [] E (tCons (tVar 0) (tCons (tC (.int 30)) tNil))))) (gName 3))
      (tSeq (tAsg (tIf (tOr (tB (tVar 1)) (tTest (tOp rEq (tCall (spRoll) [] E (tCons (tVar 0) (tCons (tC (.int 2)) tNil))) (tC (.int 0))))) (tCall (spWider K) [] E (tCons (tVar 4) (tCons (tVar 0) tNil))) (tCall (spLRules K) [] E (tCons (tVar 0) (tCons (tC (.int 2)) tNil)))) (gName 4))
      (tIfS (tTest (tOp rEq (tCall (spRoll) [] E (tCons (tVar 0) (tCons (tC (.int 6)) tNil))) (tC (.int 0)))) (tAsg (tTup (tCons (tTup (tCons (tTup (tCons (tC (.str "plan")) (tCons (tTup (tCons (tC (.int 0)) (tCons (tC (.int 1)) (tCons (tC (.int 2)) (tCons (tC (.int 3)) tNil))))) tNil))) (tCons (tC (.int 100)) tNil))) tNil)) (gName 4)) tNext)))))
      (tRet (tCB (cTuple K) (tCons (tVar 2) tNil))))), (pss_cons (ps_par3 (by rfl) sc__law_course.nd rfl rfl rfl (by decide) (by decide) (by decide) rfl rfl rfl (pa_cons (pe_lst pa_nil) (pa_cons (pe_f (ok__law_roll T) hr (pnx (L2N.takes_of rfl rfl rfl rfl)) (pa_cons (pv 0) (pa_cons pe_int pa_nil))) (pa_cons (pe_f (ok__law_rules T) hr (pnx (L2N.takes_of rfl rfl rfl rfl)) (pa_cons (pv 0) (pa_cons pe_int pa_nil))) pa_nil))) (by rfl))
      (pss_cons (ps_for (passes_of rfl) rfl (pi_range1 (by rfl) T.Z_range (pa_cons (pe_op op_add pe_int (pe_f (ok__law_roll T) hr (pnx (L2N.takes_of rfl rfl rfl rfl)) (pa_cons (pv 0) (pa_cons pe_int pa_nil)))) pa_nil)) (pg_name (i := 5) sc__law_course.nd rfl (by first | exact Or.inl rfl | exact Or.inr rfl)) (pss_cons (ps_expr (pe_bm PySem.F.plainAttrs_list PySem.F.slot_list_append PySem.F.type_list_append mt_append (pv 2) (pa_cons (pe_tup (pa_cons (pv 3) (pa_cons (pv 4) pa_nil))) pa_nil)))
      (pss_cons (ps_set (i := 3) sc__law_course.nd rfl (by first | exact Or.inl rfl | exact Or.inr rfl) (pe_op op_add (pe_op op_add (pv 3) pe_int) (pe_op op_mul (pe_f (ok__law_roll T) hr (pnx (L2N.takes_of rfl rfl rfl rfl)) (pa_cons (pv 0) (pa_cons pe_int pa_nil))) (pe_f (ok__law_roll T) hr (pnx (L2N.takes_of rfl rfl rfl rfl)) (pa_cons (pv 0) (pa_cons pe_int pa_nil))))))
      (pss_cons (ps_set (i := 4) sc__law_course.nd rfl (by first | exact Or.inl rfl | exact Or.inr rfl) (pe_ifExp (PW.pt (pw_or (pt_val (pv 1)) (pw_or1 (pt_cmpR op_eq (pe_f (ok__law_roll T) hr (pnx (L2N.takes_of rfl rfl rfl rfl)) (pa_cons (pv 0) (pa_cons pe_int pa_nil))) pe_int (nomark _))))) (pe_f (ok__law_wider T) hr (pnx (L2N.takes_of rfl rfl rfl rfl)) (pa_cons (pv 4) (pa_cons (pv 0) pa_nil))) (pe_f (ok__law_rules T) hr (pnx (L2N.takes_of rfl rfl rfl rfl)) (pa_cons (pv 0) (pa_cons pe_int pa_nil)))))
      (pss_one (ps_if (pt_cmpR op_eq (pe_f (ok__law_roll T) hr (pnx (L2N.takes_of rfl rfl rfl rfl)) (pa_cons (pv 0) (pa_cons pe_int pa_nil))) pe_int (nomark _)) (pss_one (ps_set (i := 4) sc__law_course.nd rfl (by first | exact Or.inl rfl | exact Or.inr rfl) (pe_tup (pa_cons (pe_tup (pa_cons (pe_tup (pa_cons pe_str (pa_cons (pe_tup (pa_cons pe_int (pa_cons pe_int (pa_cons pe_int (pa_cons pe_int pa_nil))))) pa_nil))) (pa_cons pe_int pa_nil))) pa_nil)))) pss_nil))))))
      (pss_one (ps_ret (pe_callTy call_tuple_of (by rfl) T.Z_tuple (by decide +kernel) (pa_cons (pv 2) pa_nil)))))), ?_⟩
    walk_at "0"
    walk_at "g"
    refine ⟨sz (by simp), fun L nL => ?_⟩
    have b0 := (But.refl hd).new (o := .lst []) nL
    have nLa := hd.ne nL
    have hL0 : upd H L (.lst []) L = some (.lst []) := upd_same
    generalize upd H L (.lst []) = H0 at *
    walk_at "g"
    refine ⟨a, 20, rfl, b0.d1, by decide, by decide, fun dy H1 dy0 dy1 b1 => ?_⟩
    walk_at "g"
    refine ⟨a, 2, rfl, by decide, by decide, b1.d1, fun rv rs H2 b2 hrv hRG => ?_⟩
    walk_at "g"
    have b02 := (b0.trans b1).trans b2
    have hL2 := b2.kp _ _ (b1.kp _ _ hL0 nLa) nLa
    refine ⟨_, _, _, rfl, ?_⟩
    walk_at "g"
    refine ⟨a, 5, rfl, b2.d1, by decide, by decide, fun n H3 n0 n1 b3 => ?_⟩
    walk_at "g"
    refine ⟨by omega, by omega, ?_⟩
    have hL3 := b3.kp _ _ hL2 nLa
    have b03 := b02.trans b3
    refine for_go walk_range (fun i σ H' => ∃ (day : Int) (rv : V) (x5 : Option V) (rs : List PyData) (xs : List V) (ds : List PyData), σ = [some (.ref a), some (.bl g), some (.ref L), some (.int day), some rv, x5] ∧ But a H H' ∧ H' L = some (.lst xs) ∧ DpAll K H' xs ds ∧ ds.length = i ∧ (∀ d ∈ ds, StepG d) ∧ (ds.map beginD).Pairwise (· < ·) ∧ (∀ d ∈ ds, beginD d < day) ∧ 0 ≤ day ∧ day ≤ 20 + 60 * i ∧ Dp K H' rv (.tuple rs) ∧ RulesG rs ∧ (g = true → ds.Pairwise (fun d e => GrowD (rulesD d) (rulesD e)) ∧ ∀ d ∈ ds, GrowD (rulesD d) (.tuple rs))) ⟨dy, rv, _, rs, [], [], rfl, b03, hL3, .nil, rfl, (fun _ h => by cases h), .nil, (fun _ h => by cases h), dy0, by omega, b3.dp hRG.imT hrv, hRG, fun _ => ⟨.nil, fun _ h => by cases h⟩⟩ (fun _ _ _ _ _ => trivial) ?_ ?_
    · clear hL3 hL2 b03 b02 hrv hRG
      rintro i x σ H4 H4' hi ⟨day, rv, x5, rs, xs, ds, rfl, b4, hL4, hxs, hl, hall, hup, hlt, d0, d1, hrv, hRG, hgr⟩ ⟨rfl, rfl⟩
      have hi5 : i < 5 := by omega
      have hds : immAll ds = true := immAll_mem fun d hd => (hall d hd).imm
      have hxl := dpAll_len hxs
      walk_at "g"
      refine ⟨tyL hL4, ?_⟩
      walk_at "g"
      refine ⟨sz (by simp), fun t nt => ?_⟩
      have b5 := b4.new (o := .tup [.int day, rv]) nt
      have s5 : Same H4' (upd H4' t (.tup [.int day, rv])) := Same.new nt
      have hL5 := s5 _ _ hL4
      have hxs5 := dps_s s5 hxs
      have hrv5 := dp_s s5 hrv
      have hn5 : Dp K (upd H4' t (.tup [.int day, rv])) (.ref t) (.tuple [.int day, .tuple rs]) := .tup (tupOf upd_same) (.cons (.int day) (.cons hrv5 .nil))
      have hsG : StepG (.tuple [.int day, .tuple rs]) := ⟨day, rs, rfl, d0, by omega, hRG⟩
      generalize upd H4' t (.tup [.int day, rv]) = H5 at *
      walk_at "g"
      refine w_app hL5 (by omega) ?_
      have hi6 : immAll (ds ++ [.tuple [.int day, .tuple rs]]) = true := by
        rw [immAll_app, hds]
        simp only [immAll, hsG.imm, Bool.and_self]
      have hxs6 := dpAll_mut (o := .lst (xs ++ [.ref t])) hL5 hi6 (dpAll_app hxs5 (.cons hn5 .nil))
      have hrv6 := dp_mut (o := .lst (xs ++ [.ref t])) hL5 hRG.imT hrv5
      have b6 := b5.mut (o := .lst (xs ++ [.ref t])) nL nLa
      have hL6 : upd H5 L (.lst (xs ++ [.ref t])) L = some (.lst (xs ++ [.ref t])) := upd_same
      generalize upd H5 L (.lst (xs ++ [.ref t])) = H6 at *
      walk_at "g"
      refine ⟨a, 3, rfl, b6.d1, by decide, by decide, fun r1 H7 r10 r11 b7 => ?_⟩
      walk_at "g"
      refine ⟨a, 30, rfl, b7.d1, by decide, by decide, fun r2 H8 r20 r21 b8 => ?_⟩
      refine w_I (.inl ⟨by omega, by omega⟩) ?_
      walk_at "g"
      have hm0 : 0 ≤ r1 * r2 := Int.mul_nonneg r10 r20
      have hm1 : r1 * r2 ≤ 2 * 29 := Int.mul_le_mul (by omega) (by omega) r20 (by decide)
      generalize r1 * r2 = rr at *
      have b68 := b7.trans b8
      have hnew : ∀ (v' : V) (rs' : List PyData) (x5 : Option V) (H' : Hp), But a H6 H' → Dp K H' v' (.tuple rs') → RulesG rs' → (g = true → GrowD (.tuple rs) (.tuple rs')) → ∃ (day' : Int) (rv : V) (x5' : Option V) (rs : List PyData) (xs : List V) (ds : List PyData), ([some (.ref a), some (.bl g), some (.ref L), some (.int (day + 1 + rr)), some v', x5] : List (Option V)) = [some (.ref a), some (.bl g), some (.ref L), some (.int day'), some rv, x5'] ∧ But a H H' ∧ H' L = some (.lst xs) ∧ DpAll K H' xs ds ∧ ds.length = i + 1 ∧ (∀ d ∈ ds, StepG d) ∧ (ds.map beginD).Pairwise (· < ·) ∧ (∀ d ∈ ds, beginD d < day') ∧ 0 ≤ day' ∧ day' ≤ 20 + 60 * ((i + 1 : Nat) : Int) ∧ Dp K H' rv (.tuple rs) ∧ RulesG rs ∧ (g = true → ds.Pairwise (fun d e => GrowD (rulesD d) (rulesD e)) ∧ ∀ d ∈ ds, GrowD (rulesD d) (.tuple rs)) := by
        intro v' rs' x5 H' b' hv' hG' hgw
        refine ⟨day + 1 + rr, v', x5, rs', xs ++ [.ref t], ds ++ [.tuple [.int day, .tuple rs]], rfl, b6.trans b', b'.kp _ _ hL6 nLa, b'.dpAll hi6 hxs6, by simp [hl], fun d hd => ?_, ?_, fun d hd => ?_, by omega, by omega, hv', hG', fun hg => ⟨?_, fun d hd => ?_⟩⟩
        · rcases List.mem_append.mp hd with hd | hd
          · exact hall d hd
          · cases List.mem_singleton.mp hd
            exact hsG
        · rw [List.map_append, List.pairwise_append]
          refine ⟨hup, by simp, fun x hx y hy => ?_⟩
          obtain ⟨d, hd, rfl⟩ := List.mem_map.mp hx
          cases List.mem_singleton.mp hy
          exact hlt d hd
        · rcases List.mem_append.mp hd with hd | hd
          · have := hlt d hd
            omega
          · cases List.mem_singleton.mp hd
            show day < day + 1 + rr
            omega
        · rw [List.pairwise_append]
          refine ⟨(hgr hg).1, by simp, fun x hx y hy => ?_⟩
          cases List.mem_singleton.mp hy
          exact (hgr hg).2 x hx
        · rcases List.mem_append.mp hd with hd | hd
          · exact ((hgr hg).2 d hd).trans (hgw hg)
          · cases List.mem_singleton.mp hd
            exact hgw hg
      have hrv8 := b68.dp hRG.imT hrv6
      cases g with
      | true =>
        walk_at "g"
        refine ⟨rv, a, rs, rfl, b8.d1, hrv8, hRG, fun v1 e1 H9 b9 hv1 hG1 hW => ?_⟩
        have bX := b68.trans b9
        walk_at "g"
        refine ⟨a, 6, rfl, bX.d1, by decide, by decide, fun r4 HA r40 r41 bA => ?_⟩
        walk_at "g"
        refine if_b (fun _ => ?_) (fun _ => ?_)
        · walk_at "g"
          refine ⟨sz (by simp), fun t1 nt1 => ?_⟩
          have bB := bA.new (o := .tup [.int 0, .int 1, .int 2, .int 3]) nt1
          have ht1 : upd HA t1 (.tup [.int 0, .int 1, .int 2, .int 3]) t1 = some (.tup [.int 0, .int 1, .int 2, .int 3]) := upd_same
          generalize upd HA t1 (.tup [.int 0, .int 1, .int 2, .int 3]) = HB at *
          walk_at "g"
          refine ⟨sz (by simp), fun t2 nt2 => ?_⟩
          have bC := bB.new (o := .tup [.str "plan", .ref t1]) nt2
          have hc5 : Dp K (upd HB t2 (.tup [.str "plan", .ref t1])) (.ref t2) (.tuple [.str "plan", .tuple (([0, 1, 2, 3] : List Int).map PyData.int)]) := .tup (tupOf upd_same) (.cons (.str _) (.cons (.tup (tup_s (Same.new nt2) (tupOf ht1)) (dpAll_ints [0, 1, 2, 3])) .nil))
          generalize upd HB t2 (.tup [.str "plan", .ref t1]) = HC at *
          walk_at "g"
          refine ⟨sz (by simp), fun t3 nt3 => ?_⟩
          have bD := bC.new (o := .tup [.ref t2, .int 100]) nt3
          have hc6 : Dp K (upd HC t3 (.tup [.ref t2, .int 100])) (.ref t3) (.tuple [.tuple [.str "plan", .tuple (([0, 1, 2, 3] : List Int).map PyData.int)], .int 100]) := .tup (tupOf upd_same) (.cons (dp_s (Same.new nt3) hc5) (.cons (.int 100) .nil))
          generalize upd HC t3 (.tup [.ref t2, .int 100]) = HD at *
          walk_at "g"
          refine ⟨sz (by simp), fun t4 nt4 => ?_⟩
          have bE := bD.new (o := .tup [.ref t3]) nt4
          have hc7 : Dp K (upd HD t4 (.tup [.ref t3])) (.ref t4) (.tuple allD) := .tup (tupOf upd_same) (.cons (dp_s (Same.new nt4) hc6) .nil)
          generalize upd HD t4 (.tup [.ref t3]) = HE at *
          walk_at "g"
          exact hnew (.ref t4) allD _ _ (bX.trans bE) hc7 allD_G (fun _ => growD_all hRG)
        · walk_at "g"
          exact hnew v1 e1 _ _ (bX.trans bA) (bA.dp hG1.imT hv1) hG1 (fun _ k _ _ _ _ => hW.share)
      | false =>
        walk_at "g"
        refine ⟨a, 2, rfl, b8.d1, by decide, by decide, fun r3 H9 r30 r31 b9 => ?_⟩
        walk_at "g"
        refine if_b (fun _ => ?_) (fun _ => ?_)
        · walk_at "g"
          refine ⟨rv, a, rs, rfl, b9.d1, b9.dp hRG.imT hrv8, hRG, fun v1 e1 H10 b10 hv1 hG1 hW => ?_⟩
          have bX := (b68.trans b9).trans b10
          walk_at "g"
          refine ⟨a, 6, rfl, bX.d1, by decide, by decide, fun r4 HA r40 r41 bA => ?_⟩
          walk_at "g"
          refine if_b (fun _ => ?_) (fun _ => ?_)
          · walk_at "g"
            refine ⟨sz (by simp), fun t1 nt1 => ?_⟩
            have bB := bA.new (o := .tup [.int 0, .int 1, .int 2, .int 3]) nt1
            have ht1 : upd HA t1 (.tup [.int 0, .int 1, .int 2, .int 3]) t1 = some (.tup [.int 0, .int 1, .int 2, .int 3]) := upd_same
            generalize upd HA t1 (.tup [.int 0, .int 1, .int 2, .int 3]) = HB at *
            walk_at "g"
            refine ⟨sz (by simp), fun t2 nt2 => ?_⟩
            have bC := bB.new (o := .tup [.str "plan", .ref t1]) nt2
            have hc5 : Dp K (upd HB t2 (.tup [.str "plan", .ref t1])) (.ref t2) (.tuple [.str "plan", .tuple (([0, 1, 2, 3] : List Int).map PyData.int)]) := .tup (tupOf upd_same) (.cons (.str _) (.cons (.tup (tup_s (Same.new nt2) (tupOf ht1)) (dpAll_ints [0, 1, 2, 3])) .nil))
            generalize upd HB t2 (.tup [.str "plan", .ref t1]) = HC at *
            walk_at "g"
            refine ⟨sz (by simp), fun t3 nt3 => ?_⟩
            have bD := bC.new (o := .tup [.ref t2, .int 100]) nt3
            have hc6 : Dp K (upd HC t3 (.tup [.ref t2, .int 100])) (.ref t3) (.tuple [.tuple [.str "plan", .tuple (([0, 1, 2, 3] : List Int).map PyData.int)], .int 100]) := .tup (tupOf upd_same) (.cons (dp_s (Same.new nt3) hc5) (.cons (.int 100) .nil))
            generalize upd HC t3 (.tup [.ref t2, .int 100]) = HD at *
            walk_at "g"
            refine ⟨sz (by simp), fun t4 nt4 => ?_⟩
            have bE := bD.new (o := .tup [.ref t3]) nt4
            have hc7 : Dp K (upd HD t4 (.tup [.ref t3])) (.ref t4) (.tuple allD) := .tup (tupOf upd_same) (.cons (dp_s (Same.new nt4) hc6) .nil)
            generalize upd HD t4 (.tup [.ref t3]) = HE at *
            walk_at "g"
            exact hnew (.ref t4) allD _ _ (bX.trans bE) hc7 allD_G (fun _ => growD_all hRG)
          · walk_at "g"
            exact hnew v1 e1 _ _ (bX.trans bA) (bA.dp hG1.imT hv1) hG1 (fun z => by cases z)
        · walk_at "g"
          refine ⟨a, 2, rfl, by decide, by decide, b9.d1, fun v1 e1 H10 b10 hv1 hG1 => ?_⟩
          have bX := (b68.trans b9).trans b10
          walk_at "g"
          refine ⟨a, 6, rfl, bX.d1, by decide, by decide, fun r4 HA r40 r41 bA => ?_⟩
          walk_at "g"
          refine if_b (fun _ => ?_) (fun _ => ?_)
          · walk_at "g"
            refine ⟨sz (by simp), fun t1 nt1 => ?_⟩
            have bB := bA.new (o := .tup [.int 0, .int 1, .int 2, .int 3]) nt1
            have ht1 : upd HA t1 (.tup [.int 0, .int 1, .int 2, .int 3]) t1 = some (.tup [.int 0, .int 1, .int 2, .int 3]) := upd_same
            generalize upd HA t1 (.tup [.int 0, .int 1, .int 2, .int 3]) = HB at *
            walk_at "g"
            refine ⟨sz (by simp), fun t2 nt2 => ?_⟩
            have bC := bB.new (o := .tup [.str "plan", .ref t1]) nt2
            have hc5 : Dp K (upd HB t2 (.tup [.str "plan", .ref t1])) (.ref t2) (.tuple [.str "plan", .tuple (([0, 1, 2, 3] : List Int).map PyData.int)]) := .tup (tupOf upd_same) (.cons (.str _) (.cons (.tup (tup_s (Same.new nt2) (tupOf ht1)) (dpAll_ints [0, 1, 2, 3])) .nil))
            generalize upd HB t2 (.tup [.str "plan", .ref t1]) = HC at *
            walk_at "g"
            refine ⟨sz (by simp), fun t3 nt3 => ?_⟩
            have bD := bC.new (o := .tup [.ref t2, .int 100]) nt3
            have hc6 : Dp K (upd HC t3 (.tup [.ref t2, .int 100])) (.ref t3) (.tuple [.tuple [.str "plan", .tuple (([0, 1, 2, 3] : List Int).map PyData.int)], .int 100]) := .tup (tupOf upd_same) (.cons (dp_s (Same.new nt3) hc5) (.cons (.int 100) .nil))
            generalize upd HC t3 (.tup [.ref t2, .int 100]) = HD at *
            walk_at "g"
            refine ⟨sz (by simp), fun t4 nt4 => ?_⟩
            have bE := bD.new (o := .tup [.ref t3]) nt4
            have hc7 : Dp K (upd HD t4 (.tup [.ref t3])) (.ref t4) (.tuple allD) := .tup (tupOf upd_same) (.cons (dp_s (Same.new nt4) hc6) .nil)
            generalize upd HD t4 (.tup [.ref t3]) = HE at *
            walk_at "g"
            exact hnew (.ref t4) allD _ _ (bX.trans bE) hc7 allD_G (fun _ => growD_all hRG)
          · walk_at "g"
            exact hnew v1 e1 _ _ (bX.trans bA) (bA.dp hG1.imT hv1) hG1 (fun z => by cases z)
    · rintro σ H4 ⟨day, rv, x5, rs, xs, ds, rfl, b4, hL4, hxs, hl, hall, hup, hlt, d0, d1, hrv, hRG, hgr⟩
      walk_at "g"
      refine ⟨_, _, rfl, .inl ⟨lstOf hL4, fun t nt => ?_⟩⟩
      exact q _ _ _ (b4.new nt) (.tup (tupOf upd_same) (dps_s (Same.new nt) hxs)) ⟨by omega, by omega, hall, hup, fun hg => (hgr hg).1⟩
theorem stepsR_G {d : PyData} (g : StepG d) : rulesD d = .tuple (stepsR d) ∧ RulesG (stepsR d) := by
  obtain ⟨b, r, rfl, _, _, hr⟩ := g
  exact ⟨rfl, hr⟩
theorem grow_loser {d e : PyData} {s t : Int} (gd : StepG d) (ge : StepG e) (h2 : s % 2 ≠ 0) (h5 : s % 5 ≠ 0) (hs0 : 0 ≤ s) (hs1 : s ≤ 99) : loserL (stepsR d) (stepsR e) s t = none ↔ GrowD (rulesD d) (rulesD e) := by
  have h := loser_iff (t := t) (stepsR_G gd).2.all (stepsR_G ge).2.all h2 h5 hs0 hs1
  have e1 : loserL (stepsR d) (stepsR e) s t = none ↔ (loserL (stepsR d) (stepsR e) s t).isSome = false := by
    cases loserL (stepsR d) (stepsR e) s t <;> simp
  rw [e1, h, (stepsR_G gd).1, (stepsR_G ge).1, List.any_eq_false]
  constructor
  · intro ha k h0 h1 h2 h3
    have := ha k (mem_kindL h0 h1 h2 h3)
    show shareL _ _ _ ≤ shareL _ _ _
    simp only [decide_eq_true_eq] at this
    omega
  · intro hg k hk
    obtain ⟨h0, h1, h2, h3⟩ := kindL_b k hk
    have : shareL (stepsR d) k.1 k.2 ≤ shareL (stepsR e) k.1 k.2 := hg k h0 h1 h2 h3
    simp only [decide_eq_true_eq]
    omega
theorem lost_none {s t : Int} (h2 : s % 2 ≠ 0) (h5 : s % 5 ≠ 0) (hs0 : 0 ≤ s) (hs1 : s ≤ 99) : ∀ {ds : List PyData}, (∀ d ∈ ds, StepG d) → (lostL s t ds = none ↔ ds.Pairwise fun d e => GrowD (rulesD d) (rulesD e))
  | [], _ => by simp [lostL]
  | [_], _ => by simp [lostL]
  | d :: e :: r, hG => by
    have hgr := grow_loser (t := t) (hG d (by simp)) (hG e (by simp)) h2 h5 hs0 hs1
    have ih := lost_none (t := t) h2 h5 hs0 hs1 (ds := e :: r) fun x hx => hG x (by simp [List.mem_cons.mp hx])
    rw [List.pairwise_cons]
    have el : lostL s t (d :: e :: r) = match loserL (stepsR d) (stepsR e) s t with
      | some u => some (.tuple [.int (beginD e), u])
      | none => lostL s t (e :: r) := rfl
    constructor
    · intro h
      cases hl : loserL (stepsR d) (stepsR e) s t with
      | some u =>
        rw [el, hl] at h
        cases h
      | none =>
        rw [el, hl] at h
        have hp := ih.mp h
        have hde := hgr.mp hl
        refine ⟨fun x hx => ?_, hp⟩
        rcases List.mem_cons.mp hx with rfl | hx
        · exact hde
        · exact hde.trans ((List.pairwise_cons.mp hp).1 x hx)
    · rintro ⟨ha, hp⟩
      rw [el, hgr.mpr (ha e (by simp))]
      exact ih.mpr hp
theorem lost_some {s t : Int} {x : PyData} : ∀ {ds : List PyData}, lostL s t ds = some x → ∃ d e u, d ∈ ds ∧ e ∈ ds ∧ x = .tuple [.int (beginD e), u] ∧ loserL (stepsR d) (stepsR e) s t = some u
  | [], h => by cases h
  | [_], h => by cases h
  | d :: e :: r, h => by
    have el : lostL s t (d :: e :: r) = match loserL (stepsR d) (stepsR e) s t with
      | some u => some (.tuple [.int (beginD e), u])
      | none => lostL s t (e :: r) := rfl
    rw [el] at h
    cases hl : loserL (stepsR d) (stepsR e) s t with
    | some u =>
      rw [hl] at h
      cases h
      exact ⟨d, e, u, by simp, by simp, rfl, hl⟩
    | none =>
      rw [hl] at h
      obtain ⟨d', e', u, h1, h2, h3, h4⟩ := lost_some (ds := e :: r) h
      exact ⟨d', e', u, List.mem_cons_of_mem _ h1, List.mem_cons_of_mem _ h2, h3, h4⟩
theorem rulesOn_end {day : Int} {ds : List PyData} {f l : PyData} (h : ∀ d ∈ ds, beginD d ≤ day) (hl : ds.getLast? = some l) : rulesOn day f ds = rulesD l := by
  rw [rulesOn_last, List.filter_eq_self.mpr fun d hd => decide_eq_true (h d hd), List.getLast?_map, hl]
  rfl
theorem last_grows {ds : List PyData} {d l : PyData} (h : ds.Pairwise fun d e => GrowD (rulesD d) (rulesD e)) (hd : d ∈ ds) (hl : ds.getLast? = some l) : GrowD (rulesD d) (rulesD l) := by
  obtain ⟨ys, rfl⟩ := List.getLast?_eq_some_iff.mp hl
  rw [List.pairwise_append] at h
  rcases List.mem_append.mp hd with hd | hd
  · exact h.2.2 d hd l (by simp)
  · cases List.mem_singleton.mp hd
    exact fun _ _ _ _ _ => Int.le_refl _
theorem lost_imm {s t : Int} {ds : List PyData} : imm (optD (lostL s t ds)) = true := by
  cases h : lostL s t ds with
  | none => rfl
  | some x =>
    obtain ⟨d, e, u, _, _, rfl, hl⟩ := lost_some h
    obtain ⟨i, k, _, _, rfl⟩ := usersL_mem (List.mem_of_find?_eq_some hl)
    have := ud_imm (0 + (i : Int)) k
    simp only [optD, Option.getD_some, imm, immAll, this, Bool.and_self]
theorem lost_shaped {s t : Int} {ds : List PyData} : SeqAt.shaped (optD (lostL s t ds)) = true := by
  cases h : lostL s t ds with
  | none => rfl
  | some x =>
    obtain ⟨d, e, u, _, _, rfl, hl⟩ := lost_some h
    obtain ⟨i, k, _, _, rfl⟩ := usersL_mem (List.mem_of_find?_eq_some hl)
    have h1 := ud_lay (0 + (i : Int)) k
    have h2 := ud_dep (0 + (i : Int)) k
    have h3 : decide (PyData.depth (.tuple [.int (beginD e), ud (0 + (i : Int)) k]) ≤ 64) = true := decide_eq_true (by simp only [PyData.depth, PyData.depthAll]; omega)
    show SeqAt.shaped (.tuple [.int (beginD e), ud (0 + (i : Int)) k]) = true
    simp only [SeqAt.shaped, PyData.canLay0, PyData.canLayAll0, h1, h3, Bool.and_self]
theorem lostL_snoc {s t : Int} {d e : PyData} : ∀ l : List PyData, lostL s t ((l ++ [d]) ++ [e]) = (lostL s t (l ++ [d])).or ((loserL (stepsR d) (stepsR e) s t).map fun u => .tuple [.int (beginD e), u])
  | [] => by
    show (match loserL (stepsR d) (stepsR e) s t with
      | some u => some (PyData.tuple [.int (beginD e), u])
      | none => none) = _
    cases loserL (stepsR d) (stepsR e) s t <;> rfl
  | [x] => by
    have ih := lostL_snoc (s := s) (t := t) (d := d) (e := e) []
    have e1 : lostL s t ([x] ++ [d] ++ [e]) = match loserL (stepsR x) (stepsR d) s t with
      | some u => some (.tuple [.int (beginD d), u])
      | none => lostL s t ([] ++ [d] ++ [e]) := rfl
    have e2 : lostL s t ([x] ++ [d]) = match loserL (stepsR x) (stepsR d) s t with
      | some u => some (.tuple [.int (beginD d), u])
      | none => lostL s t ([] ++ [d]) := rfl
    rw [e1, e2]
    cases loserL (stepsR x) (stepsR d) s t with
    | some u => rfl
    | none => exact ih
  | x :: y :: l => by
    have ih := lostL_snoc (s := s) (t := t) (d := d) (e := e) (y :: l)
    have e1 : lostL s t (x :: y :: l ++ [d] ++ [e]) = match loserL (stepsR x) (stepsR y) s t with
      | some u => some (.tuple [.int (beginD y), u])
      | none => lostL s t (y :: l ++ [d] ++ [e]) := rfl
    have e2 : lostL s t (x :: y :: l ++ [d]) = match loserL (stepsR x) (stepsR y) s t with
      | some u => some (.tuple [.int (beginD y), u])
      | none => lostL s t (y :: l ++ [d]) := rfl
    rw [e1, e2]
    cases loserL (stepsR x) (stepsR y) s t with
    | some u => rfl
    | none => exact ih
theorem lostL_take {s t : Int} {ds : List PyData} {i : Nat} {d e : PyData} (h1 : ds[i]? = some d) (h2 : ds[i + 1]? = some e) : lostL s t (ds.take (i + 2)) = (lostL s t (ds.take (i + 1))).or ((loserL (stepsR d) (stepsR e) s t).map fun u => .tuple [.int (beginD e), u]) := by
  rw [show i + 2 = i + 1 + 1 from rfl, List.take_add_one (i := i + 1), h2, List.take_add_one, h1]
  exact lostL_snoc _
theorem if_gate {g : Bool} {A B : Prop} (h1 : g = true → B → A) (h2 : B) : if g = true then A else B := by
  cases g with
  | true => exact if_t rfl (h1 rfl h2)
  | false => exact if_f rfl h2
theorem if_fi {A B : Prop} (h : if false = true then A else B) : B := by
  rw [if_neg Bool.false_ne_true] at h
  exact h
theorem ok_law (T : Tx K mg) : Ok P w K mg base 16 "law" ["script"] (spLaw K) := by
  refine Ok.mk' T.G_law T.F_law (fun _ _ _ _ _ _ us hl => match us, hl with | [_], _ => rfl) sc_law (fun vs H Q E h => ?_) (fun cdv A outer s H vs Q E hr h => ?_)
  · obtain ⟨a, ns, rfl, hS, hl, q⟩ := h
    rfl
  · obtain ⟨a, ns, rfl, hS, hl, q⟩ := h
    refine ⟨(tSeq (tFor (iList K (tCall (spRounds K) [] E (tCons (tVar 0) (tCons (tC (.int 2)) tNil)))) (gName 1) (tSeq (tAsg (tOp rEq (tCall (spRoll) [] E (tCons (tVar 1) (tCons (tC (.int 2)) tNil))) (tC (.int 0))) (gName 2))
      (tSeq (tAsg (tTup (tCons (tCall (spLCourse K) [] E (tCons (tVar 1) (tCons (tVar 2) tNil))) (tCons (tCall (spDeal K) [] E (tCons (tVar 1) tNil)) tNil))) (gTup K 2 (gCons (gName 3) (gCons (gName 4) gNil))))
      (tSeq (tAsg (tC .non) (gName 5))
      (tSeq (tFor (iRng2 (tCons (tC (.int 1)) (tCons (tCB (cLen K) (tCons (tVar 3) tNil)) tNil))) (gName 6) (tSeq (tAsg (tTup (tCons (tOp (rIxT K) (tOp (rIxT K) (tVar 3) (tOp oSub (tVar 6) (tC (.int 1)))) (tC (.int 1))) (tCons (tOp (rIxT K) (tOp (rIxT K) (tVar 3) (tVar 6)) (tC (.int 1))) tNil))) (gTup K 2 (gCons (gName 7) (gCons (gName 8) gNil))))
      (tSeq (tAsg (tLc (iList K (tCall (spLUsers K) [] E (tCons (tC (.int 0)) (tCons (tC (.int 99)) tNil)))) (gName 9) (tAnd (tB (tCall (spLets K) [] E0 (tCons (tVar 7) (tCons (tVar 4) (tCons (tVar 9) tNil))))) (tNot (tB (tCall (spLets K) [] E0 (tCons (tVar 8) (tCons (tVar 4) (tCons (tVar 9) tNil))))))) (tVar 9) [9]) (gName 10))
      (tIfS (tAnd (tTest (tOp oIsN (tVar 5) (tC .non))) (tTest (tOp (rNeD K) (tVar 10) (tLst tNil)))) (tAsg (tTup (tCons (tOp (rIxT K) (tOp (rIxT K) (tVar 3) (tVar 6)) (tC (.int 0))) (tCons (tOp (rIxL K) (tVar 10) (tC (.int 0))) tNil))) (gName 5)) tNext))))
      (tSeq (tAsg (tCall (spLost K) [] E (tCons (tVar 3) (tCons (tVar 4) tNil))) (gName 11))
      (tSeq (tIfS (tOr (tTest (tOp (rNeD K) (tVar 11) (tVar 5))) (tAnd (tB (tVar 2)) (tTest (tOp oNotN (tVar 11) (tC .non))))) (tRet (tC (.bl false))) tNext)
      (tFor (iRng1 (tCons (tC (.int 6)) tNil)) (gName 12) (tSeq (tAsg (tCall (spUser K) [] E (tCons (tVar 1) tNil)) (gName 9))
      (tSeq (tAsg (tCall (spDayOf K) [] E (tCons (tVar 3) (tCons (tVar 4) (tCons (tVar 9) tNil)))) (gName 13))
      (tSeq (tAsg (tOp oAdd (tOp (rIxT K) (tOp (rIxT K) (tVar 3) (tUn (rU fun i => .int (-i)) (tC (.int 1)))) (tC (.int 0))) (tCall (spRoll) [] E (tCons (tVar 1) (tCons (tC (.int 50)) tNil)))) (gName 14))
      (tSeq (tIfS (tAnd (tTest (tOp oIsN (tVar 11) (tC .non))) (tAnd (tTest (tOp oNotN (tVar 13) (tC .non))) (tNot (tB (tCall (spIsLet K) [] E (tCons (tCall (spRulesOn K) [] E (tCons (tVar 3) (tCons (tVar 14) tNil))) (tCons (tVar 4) (tCons (tVar 9) tNil)))))))) (tRet (tC (.bl false))) tNext)
      (tIfS (tAnd (tTest (tOp oNotN (tVar 11) (tC .non))) (tB (tCall (spIsLet K) [] E (tCons (tCall (spRulesOn K) [] E (tCons (tVar 3) (tCons (tOp (rIxT K) (tVar 11) (tC (.int 0))) tNil))) (tCons (tVar 4) (tCons (tOp (rIxT K) (tVar 11) (tC (.int 1))) tNil)))))) (tRet (tC (.bl false))) tNext)))))))))))))
      (tRet (tC (.bl true)))), (pss_cons (ps_for (passes_of rfl) rfl (pi_list (pe_f (ok__law_rounds T) hr (pnx (L2N.takes_of rfl rfl rfl rfl)) (pa_cons (pv 0) (pa_cons pe_int pa_nil)))) (pg_name (i := 1) sc_law.nd rfl (by first | exact Or.inl rfl | exact Or.inr rfl)) (pss_cons (ps_set (i := 2) sc_law.nd rfl (by first | exact Or.inl rfl | exact Or.inr rfl) (pe_cmpR op_eq (pe_f (ok__law_roll T) hr (pnx (L2N.takes_of rfl rfl rfl rfl)) (pa_cons (pv 1) (pa_cons pe_int pa_nil))) pe_int (nomark _)))
      (pss_cons (ps_asg (pe_tup (pa_cons (pe_f (ok__law_course T) hr (pnx (L2N.takes_of rfl rfl rfl rfl)) (pa_cons (pv 1) (pa_cons (pv 2) pa_nil))) (pa_cons (pe_f (ok__law_deal T) hr (pnx (L2N.takes_of rfl rfl rfl rfl)) (pa_cons (pv 1) pa_nil)) pa_nil))) (pg_tup (by rfl) (pgs_cons (pg_name (i := 3) sc_law.nd rfl (by first | exact Or.inl rfl | exact Or.inr rfl)) (pgs_cons (pg_name (i := 4) sc_law.nd rfl (by first | exact Or.inl rfl | exact Or.inr rfl)) pgs_nil))))
      (pss_cons (ps_set (i := 5) sc_law.nd rfl (by first | exact Or.inl rfl | exact Or.inr rfl) pe_non)
      (pss_cons (ps_for (passes_of rfl) rfl (pi_range2 (by rfl) T.Z_range (pa_cons pe_int (pa_cons (pe_callB call_len (by rfl) T.Z_len (by decide +kernel) (pa_cons (pv 3) pa_nil)) pa_nil))) (pg_name (i := 6) sc_law.nd rfl (by first | exact Or.inl rfl | exact Or.inr rfl)) (pss_cons (ps_asg (pe_tup (pa_cons (pe_ix ix_tup (pe_ix ix_tup (pv 3) (pe_op op_sub (pv 6) pe_int) (fun _ _ => rfl)) pe_int (fun _ _ => rfl)) (pa_cons (pe_ix ix_tup (pe_ix ix_tup (pv 3) (pv 6) (fun _ _ => rfl)) pe_int (fun _ _ => rfl)) pa_nil))) (pg_tup (by rfl) (pgs_cons (pg_name (i := 7) sc_law.nd rfl (by first | exact Or.inl rfl | exact Or.inr rfl)) (pgs_cons (pg_name (i := 8) sc_law.nd rfl (by first | exact Or.inl rfl | exact Or.inr rfl)) pgs_nil))))
      (pss_cons (ps_setLc (i := 10) (own := [("user", 9)]) rfl sc_law.nd rfl rfl (sw_true rfl rfl rfl (by decide +kernel)) (pi_list (pe_f (ok__law_users T) hr (pnx (L2N.takes_of rfl rfl rfl rfl)) (pa_cons pe_int (pa_cons pe_int pa_nil)))) (blkOk_by (own := [("user", 9)]) (N := ["script", "dice", "is_growing", "course", "deal", "due", "at", "one", "other", "user", "some", "found", "turn", "day", "later"]) (sc := defScope s_law) (by decide +kernel)) (fun _ _ _ _ _ => (pg_name (i := 9) sc_law.nd rfl (by first | exact Or.inl rfl | exact Or.inr rfl))) (fun _ _ _ _ _ => (pts_one (PW.pt (pw_and (pt_val (pe_f (ok__law_let T) hr pn0 (pa_cons (pv 7) (pa_cons (pv 4) (pa_cons (pv 9) pa_nil))))) (pw_and1 (pt_not (pt_val (pe_f (ok__law_let T) hr pn0 (pa_cons (pv 8) (pa_cons (pv 4) (pa_cons (pv 9) pa_nil))))))))))) (fun _ _ _ _ _ => (pv 9)))
      (pss_one (ps_if (PW.pt (pw_and (pt_cmpR op_isN (pv 5) pe_non (nomark _)) (pw_and1 (pt_cmpR (op_neD hr.units) (pv 10) (pe_lst pa_nil) (nomark _))))) (pss_one (ps_set (i := 5) sc_law.nd rfl (by first | exact Or.inl rfl | exact Or.inr rfl) (pe_tup (pa_cons (pe_ix ix_tup (pe_ix ix_tup (pv 3) (pv 6) (fun _ _ => rfl)) pe_int (fun _ _ => rfl)) (pa_cons (pe_ix ix_list (pv 10) pe_int (fun _ _ => rfl)) pa_nil))))) pss_nil)))))
      (pss_cons (ps_set (i := 11) sc_law.nd rfl (by first | exact Or.inl rfl | exact Or.inr rfl) (pe_f (ok_lost T) hr (pnx (L2N.takes_of rfl rfl rfl rfl)) (pa_cons (pv 3) (pa_cons (pv 4) pa_nil))))
      (pss_cons (ps_if (PW.pt (pw_or (pt_cmpR (op_neD hr.units) (pv 11) (pv 5) (nomark _)) (pw_or1 (PW.pt (pw_and (pt_val (pv 2)) (pw_and1 (pt_cmpR op_notN (pv 11) pe_non (nomark _)))))))) (pss_one (ps_ret pe_bl)) pss_nil)
      (pss_one (ps_for (passes_of rfl) rfl (pi_range1 (by rfl) T.Z_range (pa_cons pe_int pa_nil)) (pg_name (i := 12) sc_law.nd rfl (by first | exact Or.inl rfl | exact Or.inr rfl)) (pss_cons (ps_set (i := 9) sc_law.nd rfl (by first | exact Or.inl rfl | exact Or.inr rfl) (pe_f (ok__law_user T) hr (pnx (L2N.takes_of rfl rfl rfl rfl)) (pa_cons (pv 1) pa_nil)))
      (pss_cons (ps_set (i := 13) sc_law.nd rfl (by first | exact Or.inl rfl | exact Or.inr rfl) (pe_f (ok_day_of T) hr (pnx (L2N.takes_of rfl rfl rfl rfl)) (pa_cons (pv 3) (pa_cons (pv 4) (pa_cons (pv 9) pa_nil)))))
      (pss_cons (ps_set (i := 14) sc_law.nd rfl (by first | exact Or.inl rfl | exact Or.inr rfl) (pe_op op_add (pe_ix ix_tup (pe_ix ix_tup (pv 3) (pe_un un_neg pe_int) (fun _ _ => rfl)) pe_int (fun _ _ => rfl)) (pe_f (ok__law_roll T) hr (pnx (L2N.takes_of rfl rfl rfl rfl)) (pa_cons (pv 1) (pa_cons pe_int pa_nil)))))
      (pss_cons (ps_if (PW.pt (pw_and (pt_cmpR op_isN (pv 11) pe_non (nomark _)) (pw_and (pt_cmpR op_notN (pv 13) pe_non (nomark _)) (pw_and1 (pt_not (pt_val (pe_f (ok_is_let T) hr (pnx (L2N.takes_of rfl rfl rfl rfl)) (pa_cons (pe_f (ok_rules_on T) hr (pnx (L2N.takes_of rfl rfl rfl rfl)) (pa_cons (pv 3) (pa_cons (pv 14) pa_nil))) (pa_cons (pv 4) (pa_cons (pv 9) pa_nil)))))))))) (pss_one (ps_ret pe_bl)) pss_nil)
      (pss_one (ps_if (PW.pt (pw_and (pt_cmpR op_notN (pv 11) pe_non (nomark _)) (pw_and1 (pt_val (pe_f (ok_is_let T) hr (pnx (L2N.takes_of rfl rfl rfl rfl)) (pa_cons (pe_f (ok_rules_on T) hr (pnx (L2N.takes_of rfl rfl rfl rfl)) (pa_cons (pv 3) (pa_cons (pe_ix ix_tup (pv 11) pe_int (fun _ _ => rfl)) pa_nil))) (pa_cons (pv 4) (pa_cons (pe_ix ix_tup (pv 11) pe_int (fun _ _ => rfl)) pa_nil)))))))) (pss_one (ps_ret pe_bl)) pss_nil)))))))))))))))
      (pss_one (ps_ret pe_bl))), ?_⟩
    walk_at "0"
    walk_at "g"
    refine ⟨_, _, _, rfl, hS, by omega, by decide, by decide, fun L ds H1 s1 hL hds nL => ?_⟩
    walk_at "g"
    refine ⟨⟨_, lstOf hL⟩, ?_⟩
    refine rounds_go (n := 14) rfl hL (fun d h => (hds d h).2) (fun _ _ => q _) ?_
    intro w H2 d N hw hd hN
    match w, hw with
    | [w1, w2, w3, w4, w5, w6, w7, w8, w9, w10, w11, w12, w13, w14], _ =>
    walk_at "c"
    walk_at "g"
    refine ⟨d, 2, rfl, hd, by decide, by decide, fun r H3 r0 r1 b3 => ?_⟩
    walk_at "g"
    generalize decide (r = 0) = g
    refine ⟨d, g, rfl, b3.d1, fun cv cs H4 b4 hcv hC => ?_⟩
    walk_at "g"
    refine ⟨d, rfl, b4.d1, fun p s t H5 b5 np hp dl => ?_⟩
    walk_at "g"
    refine ⟨sz (by simp), fun pr npr => ?_⟩
    have sp6 : Same H5 (upd H5 pr (.tup [cv, .ref p])) := Same.new npr
    refine w_gtup (tupOf upd_same) rfl ?_
    walk_at "g"
    have hcv6 := dp_s sp6 (b5.dp hC.imm hcv)
    have hdl6 : Dp K (upd H5 pr (.tup [cv, .ref p])) (.ref p) (.tuple [.int s, .int t]) := .tup (tup_s sp6 (tupOf hp)) (.cons (.int s) (.cons (.int t) .nil))
    have b6 := ((b3.trans b4).trans b5).same sp6
    generalize upd H5 pr (.tup [cv, .ref p]) = H6 at *
    have hdi : imm (.tuple [.int s, .int t]) = true := rfl
    obtain ⟨s', t', es, s0, s1', t0, t1, o2, o5⟩ := isDeal_is dl
    cases es
    obtain ⟨ca, cxs, rfl, hcx, hcxs⟩ := dp_tuple hcv6
    have hcl := dpAll_len hcxs
    have hone := hC.one
    have hlen := hC.len
    walk_at "g"
    refine w_lenT hcx ?_
    walk_at "g"
    refine ⟨⟨by decide, by decide, by omega, by omega⟩, ?_⟩
    have hdue0 : lostL s t (cs.take 1) = none := by
      cases cs with
      | nil => rfl
      | cons c r => rfl
    refine for_go walk_range (fun i σ H' => ∃ (fv : V) (x6 x7 x8 x9 x10 : Option V), σ = [some (.ref a), some (.ref d), some (.bl g), some (.ref ca), some (.ref p), some fv, x6, x7, x8, x9, x10, w11, w12, w13, w14] ∧ Same H6 H' ∧ Dp K H' fv (optD (lostL s t (cs.take (i + 1))))) ⟨.non, _, _, _, _, _, rfl, Same.refl _, by rw [hdue0]; exact .non⟩ (fun _ _ _ _ _ => trivial) ?_ ?_
    · rintro i x σ H7' H7 hi ⟨fv, x6, x7, x8, x9, x10, rfl, s7, hfv⟩ ⟨rfl, rfl⟩
      have hi2 : i + 1 < cs.length := by
        have : i < ((cxs.length : Int) - 1).toNat := hi
        omega
      obtain ⟨c1, hc1⟩ : ∃ c, cs[i]? = some c := ⟨_, List.getElem?_eq_getElem (by omega)⟩
      obtain ⟨c2, hc2⟩ : ∃ c, cs[i + 1]? = some c := ⟨_, List.getElem?_eq_getElem (by omega)⟩
      have htake := lostL_take (s := s) (t := t) hc1 hc2
      obtain ⟨y1, hy1', hd1⟩ := dpAll_get hcxs hc1
      obtain ⟨y2, hy2', hd2⟩ := dpAll_get hcxs hc2
      obtain ⟨p1, g1, rfl, _, _, hg1⟩ := hC.all _ (List.mem_of_getElem? hc1)
      obtain ⟨p2, g2, rfl, _, _, hg2⟩ := hC.all _ (List.mem_of_getElem? hc2)
      obtain ⟨a1, ys1, rfl, hz1, hzs1⟩ := dp_tuple (dp_s s7 hd1)
      obtain ⟨a2, ys2, rfl, hz2, hzs2⟩ := dp_tuple (dp_s s7 hd2)
      cases hzs1 with
      | cons hq1 hzs1 =>
      cases hzs1 with
      | cons hq2 hzs1 =>
      cases hzs1
      cases hzs2 with
      | cons hq3 hzs2 =>
      cases hzs2 with
      | cons hq4 hzs2 =>
      cases hzs2
      cases hq3
      have hcx7 := tup_s s7 hcx
      walk_at "g"
      refine w_ixT hcx7 (at_of (j := i) (by omega) hy1') ?_
      walk_at "g"
      refine w_ixT hz1 (at_of (j := 1) rfl rfl) ?_
      walk_at "g"
      refine w_ixT hcx7 (at_of (j := i + 1) (by omega) hy2') ?_
      walk_at "g"
      refine w_ixT hz2 (at_of (j := 1) rfl rfl) ?_
      walk_at "g"
      refine ⟨sz (by simp), fun pp npp => ?_⟩
      refine w_gtup (tupOf upd_same) rfl ?_
      walk_at "g"
      rename_i v1 v2 v4
      have s8 : Same H7 (upd H7 pp (.tup [v2, v4])) := Same.new npp
      have hq2 := dp_s s8 hq2
      have hq4 := dp_s s8 hq4
      have s68 := s7.trans s8
      have hfv := dp_s s8 hfv
      generalize upd H7 pp (.tup [v2, v4]) = H8 at *
      have hdl8 := dp_s s68 hdl6
      refine ⟨0, 99, rfl, by decide, by decide, by decide, by decide, fun LU us H16 s16 nLU hLU hus => ?_⟩
      have hus : DpAll K H16 us (usersL 0 100) := hus
      have hul := dpAll_len hus
      rw [usersL_len] at hul
      have hy1 := dp_s s16 hq2
      have hy2 := dp_s s16 hq4
      have hdl16 := dp_s s16 hdl8
      have hfv := dp_s s16 hfv
      walk_at "g"
      refine ⟨⟨us, lstOf hLU⟩, ?_⟩
      have himm : immAll ((usersL 0 100).filter (losesP g1 g2 s t)) = true := immAll_mem fun e he => immAll_get (immAll_users 0 100) (List.mem_filter.mp he).1
      refine lc_data (K := K) (walk_list (xs := us)) (by omega) ((usersL 0 100).map fun u => if losesP g1 g2 s t u = true then [u] else []) (by simp [usersL_len, hul]) (fun H' s => lstOf (s _ _ hLU)) ?_ ?_
      · rintro D j acc x H' H'' hD hj hacc hH' iv ⟨rfl, hxj⟩
        obtain ⟨e, he, hde⟩ := dpAll_getV hus hxj
        obtain ⟨n, k, hn, hk, rfl⟩ := usersL_mem (List.mem_of_getElem? he)
        have hu := dp_s iv.1 hde
        walk_at "g"
        refine ⟨rfl, ?_⟩
        walk_at "g"
        refine ⟨v2, .ref p, x, g1, s, t, _, _, _, rfl, dp_s iv.1 hy1, hg1.ok, hg1.rules, dp_s iv.1 hdl16, s0, s1', hu, fun H17 s17 => ?_⟩
        walk_at "g"
        have hel : ∀ b, losesP g1 g2 s t (ud (0 + (n : Int)) k) = b → ((usersL 0 100).map fun u => if losesP g1 g2 s t u = true then [u] else [])[j]? = some (if b = true then [ud (0 + (n : Int)) k] else []) := fun b hb => by
          rw [List.getElem?_map, he]
          simp only [Option.map_some, hb]
        rw [loses_ud] at hel
        cases ha : decide (((0 + (n : Int)) * s + t) % 100 < shareL g1 k.1 k.2) with
        | true =>
          rw [ha] at hel
          walk_at "g"
          refine ⟨v4, .ref p, x, g2, s, t, _, _, _, rfl, dp_s s17 (dp_s iv.1 hy2), hg2.ok, hg2.rules, dp_s s17 (dp_s iv.1 hdl16), s0, s1', dp_s s17 hu, fun H18 s18 => ?_⟩
          walk_at "g"
          cases hb : decide (((0 + (n : Int)) * s + t) % 100 < shareL g2 k.1 k.2) with
          | true =>
            rw [hb] at hel
            walk_at "g"
            exact lcd_sk hacc hH' iv (s17.trans s18) (hel _ rfl)
          | false =>
            rw [hb] at hel
            walk_at "g"
            refine lcd_nx hD (by omega) hacc hH' iv (s17.trans s18) (dp_s s18 (dp_s s17 hu)) ?_ (hel _ rfl)
            rw [flat_ifD (losesP g1 g2 s t) (fun u => u), List.map_id']
            exact himm
        | false =>
          rw [ha] at hel
          walk_at "g"
          exact lcd_sk hacc hH' iv s17 (hel _ rfl)
      · intro D acc H17 hD s17 hD17 hacc
        rw [flat_ifD (losesP g1 g2 s t) (fun u => u), List.map_id'] at hacc
        have hfv := dp_s s17 hfv
        have hFm : ∀ e ∈ (usersL 0 100).filter (losesP g1 g2 s t), e ∈ usersL 0 100 := fun e he => (List.mem_filter.mp he).1
        have hhead : loserL g1 g2 s t = ((usersL 0 100).filter (losesP g1 g2 s t)).head? := List.head?_filter.symm
        have htake : lostL s t (cs.take (i + 2)) = (lostL s t (cs.take (i + 1))).or ((loserL g1 g2 s t).map fun u => .tuple [.int p2, u]) := htake
        have s617 := (s68.trans s16).trans s17
        have hcx17 := tup_s s617 hcx
        have hz17 := tup_s ((s8.trans s16).trans s17) hz2
        walk_at "g"
        cases hlo : lostL s t (cs.take (i + 1)) with
        | some x =>
          rw [hlo] at hfv htake
          have hfv : Dp K H17 fv x := hfv
          obtain ⟨d3, e3, u3, _, _, rfl, _⟩ := lost_some hlo
          obtain ⟨fa, fxs, rfl, _, _⟩ := dp_tuple hfv
          walk_at "g"
          refine ⟨_, _, _, _, _, _, rfl, s617, ?_⟩
          rw [show i + 1 + 1 = i + 2 from rfl, htake]
          exact hfv
        | none =>
          rw [hlo] at hfv htake
          cases hfv
          walk_at "g"
          refine ⟨sz (by simp), fun e0 ne0 => ?_⟩
          have s19 : Same H17 (upd H17 e0 (.lst [])) := Same.new ne0
          have hD19 := s19 _ _ hD17
          have hacc19 := dps_s s19 hacc
          refine w_neD (.lst (lstOf hD19) hacc19) (.lst (lstOf upd_same) .nil) (shaped_uds hFm) (by rfl) ?_
          rw [eqv_nil]
          have hcx19 := tup_s s19 hcx17
          have hz19 := tup_s s19 hz17
          generalize upd H17 e0 (.lst []) = H19 at *
          generalize (usersL 0 100).filter (losesP g1 g2 s t) = F at *
          cases F with
          | nil =>
            walk_at "g"
            refine ⟨_, _, _, _, _, _, rfl, s617.trans s19, ?_⟩
            rw [show i + 1 + 1 = i + 2 from rfl, htake, hhead]
            exact .non
          | cons u r =>
            cases hacc19 with
            | cons hz hzs =>
            walk_at "g"
            refine w_ixT hcx19 (at_of (j := i + 1) (by omega) hy2') ?_
            walk_at "g"
            refine w_ixT hz19 (at_of (j := 0) rfl rfl) ?_
            walk_at "g"
            refine w_ixL (lstOf hD19) (at_of (j := 0) rfl rfl) ?_
            walk_at "g"
            refine ⟨sz (by simp), fun t5 nt5 => ?_⟩
            refine ⟨_, _, _, _, _, _, rfl, (s617.trans s19).trans (Same.new nt5), ?_⟩
            rw [show i + 1 + 1 = i + 2 from rfl, htake, hhead]
            exact .tup (tupOf upd_same) (.cons (.int p2) (.cons (dp_s (Same.new nt5) hz) .nil))
    · rintro σ H7 ⟨fv, x6, x7, x8, x9, x10, rfl, s7, hfv⟩
      have hfl : cs.take (((cxs.length : Int) - 1).toNat + 1) = cs := List.take_of_length_le (by omega)
      rw [hfl] at hfv
      have hcv7 := dp_s s7 hcv6
      have hdl7 := dp_s s7 hdl6
      walk_at "g"
      refine ⟨.ref ca, .ref p, _, _, rfl, hcv7, hdl7, hC.ok, fun _ _ _ e1 e2 _ _ u H8 s8 hu => ?_, fun z => absurd (hC.course.symm.trans z) (by simp), fun _ z => absurd (dl.symm.trans z) (by simp)⟩
      cases e1
      cases e2
      have b8 := (b6.same s7).same s8
      have hcv8 := dp_s s8 hcv7
      have hdl8 := dp_s s8 hdl7
      have hfv8 := dp_s s8 hfv
      walk_at "g"
      refine w_neD hu hfv8 lost_shaped lost_shaped ?_
      rw [eqv_same _ lost_imm]
      walk_at "g"
      have hgn : g = true → lostL s t cs = none := fun hg => (lost_none o2 o5 s0 s1' hC.all).mpr (hC.grow hg)
      refine if_gate (fun hg hB => ?_) ?_
      · rw [hgn hg] at hu
        cases hu
        refine w_test ?_
        refine w_op ?_
        refine w_var rfl ?_
        refine w_c ?_
        refine w_notN ?_
        refine ⟨_, rfl, ?_⟩
        exact hB
      walk_at "g"
      refine ⟨by decide, by decide, ?_⟩
      obtain ⟨ly, ld, hly, hld, hlyd⟩ := dpAll_last (dps_s s8 (dps_s s7 hcxs)) (by intro z; rw [z] at hone; simp at hone)
      obtain ⟨lb, lr, rfl, lb0, lb1, hlr⟩ := hC.all ld (List.mem_of_getLast? hld)
      obtain ⟨a1, u1, hu1e, hs1⟩ : ∃ a1 u1, ly = .ref a1 ∧ SqT K H8 a1 [.int lb, u1] := by
        obtain ⟨a2, ys, rfl, hy, hys⟩ := dp_tuple hlyd
        cases hys with
        | cons hy1 hys =>
        cases hys with
        | cons hy2 hys =>
        cases hys
        cases hy1
        exact ⟨a2, _, rfl, hy⟩
      subst hu1e
      have hcx8 := tup_s s8 (tup_s s7 hcx)
      have hlbs : (cs.map beginD).getLast? = some lb := by
        rw [List.getLast?_map, hld]
        rfl
      refine for_go walk_range (fun i σ H' => (∃ x9 x12 x13 x14, σ = [some (.ref a), some (.ref d), some (.bl g), some (.ref ca), some (.ref p), some fv, x6, x7, x8, x9, x10, some u, x12, x13, x14]) ∧ But d H8 H') ⟨⟨_, _, _, _, rfl⟩, But.refl b8.d1⟩ (fun _ _ _ _ _ => trivial) ?_ ?_
      · rintro i x σ H9' H9 hi ⟨⟨x9, x12, x13, x14, rfl⟩, b9⟩ ⟨rfl, rfl⟩
        walk_at "g"
        refine ⟨d, rfl, b9.d1, fun uu n l m H10 b10 nu huu n0 n1 l0 l1 m0 m1 => ?_⟩
        have bT := b9.trans b10
        have us := isUser_mk n0 n1 l0 l1 m0 m1
        have hu10 : Dp K H10 (.ref uu) (.tuple [.int n, .int l, .int m]) := .tup (tupOf huu) (.cons (.int n) (.cons (.int l) (.cons (.int m) .nil)))
        have hcv10 := bT.dp hC.imm hcv8
        have hdl10 := bT.dp hdi hdl8
        walk_at "g"
        refine ⟨.ref ca, .ref p, .ref uu, _, _, _, rfl, hcv10, hdl10, hu10, hC.ok, fun _ _ _ _ _ _ e1 e2 e3 _ _ _ H11 s11 => ?_, fun z => absurd (hC.course.symm.trans z) (by simp), fun _ z => absurd (dl.symm.trans z) (by simp), fun _ _ z => absurd (us.symm.trans z) (by simp)⟩
        cases e1
        cases e2
        cases e3
        have bT11 := bT.same s11
        walk_at "g"
        refine w_ixT (bT11.tup hcx8) (atI_last hly) ?_
        walk_at "g"
        refine w_ixT (bT11.tup hs1) (v := .int lb) rfl ?_
        walk_at "g"
        refine ⟨d, 50, rfl, bT11.d1, by decide, by decide, fun r H12 r0 r1 b12 => ?_⟩
        have bT12 := bT11.trans b12
        have hcv12 := bT12.dp hC.imm hcv8
        have hdl12 := bT12.dp hdi hdl8
        have hu12 := b12.dp rfl (dp_s s11 hu10)
        have hu' := hu
        walk_at "g"
        cases hlo : lostL s t cs with
        | none =>
          rw [hlo] at hu'
          cases hu'
          walk_at "g"
          cases hday : dayOfL cs s t n l m with
          | none =>
            walk_at "g"
            exact ⟨⟨_, _, _, _, rfl⟩, bT12⟩
          | some dd =>
            have hnum : isNum (.int (lb + r)) 0 10000 = true := by
              simp only [isNum, decide_eq_true (show 0 ≤ lb + r by omega), decide_eq_true (show lb + r ≤ 10000 by omega), Bool.and_self]
            unfold dayV
            walk_at "g"
            refine ⟨.ref ca, .int (lb + r), _, _, rfl, hcv12, .int _, hC.ok, fun _ _ e1 e2 _ _ v1 H13 s13 hv1 => ?_, fun z => absurd (hC.course.symm.trans z) (by simp), fun _ z => absurd (hnum.symm.trans z) (by simp)⟩
            cases e1
            cases e2
            have er : rulesOn (lb + r) (.tuple []) cs = .tuple lr := rulesOn_end (fun e he => by
              have := up_last hC.up hlbs (List.mem_map.mpr ⟨e, he, rfl⟩)
              omega) hld
            rw [er] at hv1
            walk_at "g"
            refine ⟨v1, .ref p, .ref uu, _, _, _, rfl, hv1, dp_s s13 hdl12, dp_s s13 hu12, hlr.ok, fun _ _ _ H14 s14 => ?_, fun z => absurd (hlr.rules.symm.trans z) (by simp), fun _ z => absurd (dl.symm.trans z) (by simp), fun _ _ z => absurd (us.symm.trans z) (by simp)⟩
            have hpw := (lost_none o2 o5 s0 s1' hC.all).mp hlo
            have hle := last_grows hpw (List.mem_of_find?_eq_some hday) hld (l, m) l0 l1 m0 m1
            have hdd := List.find?_some hday
            have hlet : letsD (.tuple lr) (.tuple [.int s, .int t]) (.tuple [.int n, .int l, .int m]) = true := by
              have hdd := of_decide_eq_true hdd
              exact decide_eq_true (Int.lt_of_lt_of_le hdd hle)
            rw [hlet]
            walk_at "g"
            exact ⟨⟨_, _, _, _, rfl⟩, (bT12.same s13).same s14⟩
        | some x =>
          rw [hlo] at hu'
          obtain ⟨d3, e3, u3, hd3, he3, rfl, hlo3⟩ := lost_some hlo
          have hu' : Dp K H8 u (.tuple [.int (beginD e3), u3]) := hu'
          obtain ⟨pn, pk, hpn, hpk, rfl⟩ := usersL_mem (List.mem_of_find?_eq_some hlo3)
          obtain ⟨eb, er, rfl, eb0, eb1, her⟩ := hC.all _ he3
          have hi' : imm (.tuple [.int eb, ud (0 + (pn : Int)) pk]) = true := by
            have := ud_imm (0 + (pn : Int)) pk
            simp only [imm, immAll, this, Bool.and_self]
          have hu12' := bT12.dp hi' hu'
          obtain ⟨ua, uxs, rfl, hua, huas⟩ := dp_tuple hu12'
          cases huas with
          | cons hb1 huas =>
          cases huas with
          | cons hb2 huas =>
          cases huas
          cases hb1
          walk_at "g"
          refine w_ixT hua (at_of (j := 0) rfl rfl) ?_
          have hnum : isNum (.int eb) 0 10000 = true := by
            simp only [isNum, decide_eq_true eb0, decide_eq_true (show eb ≤ 10000 by omega), Bool.and_self]
          walk_at "g"
          refine ⟨.ref ca, .int eb, _, _, rfl, hcv12, .int _, hC.ok, fun _ _ e1 e2 _ _ v1 H13 s13 hv1 => ?_, fun z => absurd (hC.course.symm.trans z) (by simp), fun _ z => absurd (hnum.symm.trans z) (by simp)⟩
          cases e1
          cases e2
          have ero : rulesOn eb (.tuple []) cs = .tuple er := rulesOn_at (d := .tuple [.int eb, .tuple er]) hC.up he3
          rw [ero] at hv1
          walk_at "g"
          refine w_ixT (tup_s s13 hua) (at_of (j := 1) rfl rfl) ?_
          obtain ⟨k0, k1, k2, k3⟩ := kindL_b pk hpk
          have us3 : isUser (ud (0 + (pn : Int)) pk) = true := isUser_mk (by omega) (by omega) k0 k1 k2 k3
          walk_at "g"
          refine ⟨v1, .ref p, _, _, _, _, rfl, hv1, dp_s s13 hdl12, dp_s s13 hb2, her.ok, fun _ _ _ H14 s14 => ?_, fun z => absurd (her.rules.symm.trans z) (by simp), fun _ z => absurd (dl.symm.trans z) (by simp), fun _ _ z => absurd (us3.symm.trans z) (by simp)⟩
          have hls := List.find?_some hlo3
          unfold losesP at hls
          have hlet : letsD (.tuple er) (.tuple [.int s, .int t]) (ud (0 + (pn : Int)) pk) = false := by
            have := (Bool.and_eq_true_iff.mp hls).2
            simpa [stepsR] using this
          rw [hlet]
          walk_at "g"
          exact ⟨⟨_, _, _, _, rfl⟩, (bT12.same s13).same s14⟩
      · rintro σ H9 ⟨⟨x9, x12, x13, x14, rfl⟩, b9⟩
        exact hN _ _ rfl (b8.trans b9)
end
end RG
namespace RG
open PySem PySem.Spec PyProof.Rows L2
abbrev lvl : Nat := 16
theorem law_at {K : PySem.W.Frag} {h : Heap} {mg : Str → Option Value} {w : World} {fa : Addr} (X : K.In h) (G : h.Ns mainGlobals mg) (c : He.SaysX fal fnl [] tfl exl w h K) (hmg : mg ("law" : Str) = some (.ref fa)) :
    LamX.LawAtS PySem.Challenge.rw_rollgates_k61_whole_who_loses w K (CXN PySem.Challenge.pw_rollgates_k61_whole_who_loses w) lvl 63 "script" mg fa h := by
  have T := tx_mk X G c
  have e := hmg.symm.trans T.G_law
  cases e
  have ok : ∀ base : Heap, Ok PySem.Challenge.pw_rollgates_k61_whole_who_loses w K mg base lvl "law" ["script"] (spLaw K) := fun base => ok_law T
  obtain ⟨_, _, fd, fe, b, _⟩ := ok h
  refine ⟨fd, [], spLaw K, fun _ z => (by cases z), fun _ z => (by cases z), fun _ z => (by cases z), fun s u => b s [u] rfl, fun H a ns hl _ _ hS => ⟨a, ns, rfl, hS, hl, fun _ => rfl⟩, fun base _ _ _ => ?_⟩
  obtain ⟨_, _, fd2, fe2, _, F2⟩ := ok base
  have e2 := fe.symm.trans fe2
  cases e2
  exact F2
end RG

open PySem PySem.W PySem.Calls PyProof.Rows
set_option maxRecDepth 100000 in
set_option maxHeartbeats 0 in
theorem PySem.Challenge.cw_rollgates_k61_whole_who_loses_holds : PySem.Challenge.rw_rollgates_k61_whole_who_loses.Holds := by
  w_on; o_law
  refine HandSHeadRun.head_any (r := PySem.W.OpenLaw.row PySem.Challenge.rw_rollgates_k61_whole_who_loses) (q := view (PySem.W.OpenLaw.row PySem.Challenge.rw_rollgates_k61_whole_who_loses).prog [57]) (H := RG.hkl) (ob := RG.obl) (M := 6140) (loose := RG.nml) (d := HandSHeadRun.topDef (PySem.W.OpenLaw.row PySem.Challenge.rw_rollgates_k61_whole_who_loses).prog 57) (kwd := []) RG.obl_eq
    (by kernel_rfl) (fun s => by kernel_rfl) RG.runl (by kernel_rfl) (by kernel_rfl) (by kernel_rfl) (by rfl) (by first | assumption | decide +kernel) (by decide +kernel) ⟨rfl, rfl, rfl, rfl, rfl, by decide +kernel⟩ ?hw ?hc
  case hw => w_witness2
  case hc =>
    refine LamX.walk_ofTsE (l := PySem.Challenge.rw_rollgates_k61_whole_who_loses) (n := 63) (k := RG.lvl) (x := "script") (CX := fun w => RG.CXN PySem.Challenge.pw_rollgates_k61_whole_who_loses w) rfl (by decide) (by kernel_rfl) ⟨rfl, by decide, by decide⟩ ?F ?X
    case X =>
      intro w H s e s' z
      obtain ⟨_, _, _, _, _, _, _, _, _, _, _, _, z⟩ := z
      exact z
    case F =>
      intro w mg fa h Y G hmg0
      obtain ⟨K, KX, c⟩ := Y
      have hmg : mg ("law" : PySem.Str) = some (.ref fa) := by
        have e : (HandSHeadRun.topDef (PySem.W.OpenLaw.row PySem.Challenge.rw_rollgates_k61_whole_who_loses).prog 57).name = ("law" : PySem.Str) := by kernel_rfl
        rw [← e]
        exact hmg0
      exact ⟨K, KX, RG.law_at KX G c hmg⟩

